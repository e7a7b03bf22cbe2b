import PyProof.Rows.All
import Wide.All
import OpenK.AllK
import Wide.FinOn
import HandS.ForMost
import HandS.Sort
import HandS.SortRule
import HandS.SortInts
import HandS.IsInst
import HandS.Strs
import HandS.Zip
import HandS.Flow
import HandS.Defaults
import HandS.Exc
import HandS.TryOnly
import HandS.ExcOwn
import HandS.WordsExc
import HandS.Walk
import HandS.HeadHook2
import HandS.NoneIn
import HandS.TupSets
import HandS.ClsMeth
import HandS.More
import HandS.WideBits
import KE.KStateDown
import HandS.Head0
import HandS.Head1
import HandS.Head2
import HandS.HeadEnd
import HandS.HeadHook1
import PySem.Challenge.RW_wornpages_k66_planted_faults
set_option Elab.async false
set_option linter.all false
set_option maxRecDepth 100000
set_option maxHeartbeats 4000000
namespace Wn
open PySem L2

/-! ### cells with owners -/
def isPers : HO → Bool
  | .tup _ => true
  | .frz _ (.dK _) => false
  | .frz _ (.dT _) => false
  | .frz _ _ => true
  | _ => false
def Pers (H H' : Hp) : Prop := ∀ b o, isPers o = true → H b = some o → H' b = some o
theorem Pers.refl (H : Hp) : Pers H H := fun _ _ _ h => h
theorem Pers.trans {H H1 H2 : Hp} (a : Pers H H1) (b : Pers H1 H2) : Pers H H2 := fun c o p h => b c o p (a c o p h)
theorem Pers.tup {H H' : Hp} (p : Pers H H') {a : Addr} {xs : List V} (h : H a = some (.tup xs)) : H' a = some (.tup xs) := p a _ rfl h
theorem Pers.frz {H H' : Hp} (p : Pers H H') {a : Addr} {o : Obj} {u : HO} (h : H a = some (.frz o u)) (n : isPers (.frz o u) = true := by rfl) : H' a = some (.frz o u) := p a _ n h
theorem Pers.new {H : Hp} {p : Addr} {o : HO} (h : H p = none) : Pers H (upd H p o) := fun b u _ e => by
  rw [upd_ne (ne_of_none e h)]; exact e
theorem Pers.upd {H : Hp} {p : Addr} {o o' : HO} (h : H p = some o) (n : isPers o = false) : Pers H (upd H p o') := fun b u q e => by
  have : b ≠ p := by
    intro z; subst z; rw [h] at e; cases e; rw [n] at q; cases q
  rw [upd_ne this]; exact e
theorem Pers.sqT {K : PySem.W.Frag} {H H' : Hp} (p : Pers H H') {a : Addr} {xs : List V} (h : SqT K H a xs) : SqT K H' a xs := by
  rcases h with (h | ⟨o, h⟩) | h
  · exact .inl (.inl (p.tup h))
  · exact .inl (.inr ⟨o, p.frz h⟩)
  · exact .inr h

structure BO where
  sat : Hp → Addr → List Addr → Prop
  loc : ∀ H H' a fp, sat H a fp → (∀ b ∈ fp, H' b = H b) → Pers H H' → sat H' a fp
  own : ∀ H a fp, sat H a fp → ∀ b ∈ fp, ∃ o, H b = some o
abbrev Cell := Addr × BO
def Sat (H : Hp) (c : Cell) (fp : List Addr) : Prop := c.2.sat H c.1 fp
def Rel (H : Hp) (L : List Cell) : Prop := ∃ fps : List (List Addr), Paired (Sat H) L fps ∧ fps.flatten.Nodup

def raw (o : HO) : BO where
  sat H a fp := H a = some o ∧ fp = [a]
  loc H H' a fp h k _ := by obtain ⟨h, rfl⟩ := h; exact ⟨(k a (by simp)).trans h, rfl⟩
  own H a fp h b hb := by obtain ⟨h, rfl⟩ := h; simp at hb; subst hb; exact ⟨_, h⟩

def seqO (K : PySem.W.Frag) (xs : List V) : BO where
  sat H a fp := (H a = some (.lst xs) ∧ fp = [a]) ∨ (fp = [] ∧ SqL K H a xs ∧ ∀ H', Pers H H' → SqL K H' a xs)
  loc H H' a fp h k p := by
    rcases h with ⟨h, rfl⟩ | ⟨rfl, h, h2⟩
    · exact .inl ⟨(k a (by simp)).trans h, rfl⟩
    · exact .inr ⟨rfl, h2 H' p, fun H2 p2 => h2 H2 (p.trans p2)⟩
  own H a fp h b hb := by
    rcases h with ⟨h, rfl⟩ | ⟨rfl, _⟩
    · simp at hb; subst hb; exact ⟨_, h⟩
    · simp at hb

theorem all_loc {H H' : Hp} (p : Pers H H') : ∀ {L : List Cell} {fps : List (List Addr)}, Paired (Sat H) L fps → (∀ b ∈ fps.flatten, H' b = H b) → Paired (Sat H') L fps
  | _, _, .nil, _ => .nil
  | _, _, .cons r t, k => .cons (BO.loc _ _ _ _ _ r (fun b hb => k b (by simp [hb])) p) (all_loc p t fun b hb => k b (by simp only [List.flatten_cons, List.mem_append]; exact .inr hb))
theorem all_own {H : Hp} : ∀ {L : List Cell} {fps : List (List Addr)}, Paired (Sat H) L fps → ∀ b ∈ fps.flatten, ∃ o, H b = some o
  | _, _, .nil, b, hb => by simp at hb
  | _, _, .cons r t, b, hb => by
    simp only [List.flatten_cons, List.mem_append] at hb
    rcases hb with hb | hb
    · exact BO.own _ _ _ _ r b hb
    · exact all_own t b hb

/-- an object made of cells -/
def exO {X : Type} (cells : X → Addr → List Cell) (P : X → Addr → Prop) : BO where
  sat H a fp := ∃ x, P x a ∧ ∃ fps, Paired (Sat H) (cells x a) fps ∧ fp = fps.flatten
  loc H H' a fp h k p := by
    obtain ⟨x, q, fps, r, rfl⟩ := h
    exact ⟨x, q, fps, all_loc p r k, rfl⟩
  own H a fp h b hb := by
    obtain ⟨x, q, fps, r, rfl⟩ := h
    exact all_own r b hb

theorem paired_app {α β : Type} {S : α → β → Prop} : ∀ {a b : List α} {c d : List β}, Paired S a c → Paired S b d → Paired S (a ++ b) (c ++ d)
  | _, _, _, _, .nil, h => h
  | _, _, _, _, .cons r t, h => .cons r (paired_app t h)
theorem paired_split {α β : Type} {S : α → β → Prop} : ∀ {a b : List α} {e : List β}, Paired S (a ++ b) e → ∃ c d, e = c ++ d ∧ Paired S a c ∧ Paired S b d
  | [], _, e, h => ⟨[], e, rfl, .nil, h⟩
  | x :: a, b, _, .cons r t => by
    obtain ⟨c, d, rfl, h1, h2⟩ := paired_split (a := a) (b := b) t
    exact ⟨_ :: c, d, rfl, .cons r h1, h2⟩

theorem Rel.open_ {X : Type} {cells : X → Addr → List Cell} {P : X → Addr → Prop} {H : Hp} {a : Addr} {L : List Cell} (R : Rel H ((a, exO cells P) :: L)) : ∃ x, P x a ∧ Rel H (cells x a ++ L) := by
  obtain ⟨fps, r, nd⟩ := R
  cases r with
  | cons r t =>
    obtain ⟨x, q, gs, r, rfl⟩ := r
    exact ⟨x, q, gs ++ _, paired_app r t, by simpa using nd⟩
theorem Rel.close_ {X : Type} {cells : X → Addr → List Cell} {P : X → Addr → Prop} {H : Hp} {a : Addr} {L : List Cell} (x : X) (q : P x a) (R : Rel H (cells x a ++ L)) : Rel H ((a, exO cells P) :: L) := by
  obtain ⟨fps, r, nd⟩ := R
  obtain ⟨c, d, rfl, h1, h2⟩ := paired_split r
  exact ⟨c.flatten :: d, .cons ⟨x, q, c, h1, rfl⟩ h2, by simpa using nd⟩

inductive Sel (c : Cell) : List Cell → List Cell → Prop where
  | here {L} : Sel c (c :: L) L
  | there {d L L'} : Sel c L L' → Sel c (d :: L) (d :: L')
theorem Sel.fps {c : Cell} {H : Hp} {L L' : List Cell} (s : Sel c L L') : ∀ {fps : List (List Addr)}, Paired (Sat H) L fps → ∃ f gs, Sat H c f ∧ Paired (Sat H) L' gs ∧ (f ++ gs.flatten).Perm fps.flatten := by
  induction s with
  | here => intro fps h; cases h with | cons r t => exact ⟨_, _, r, t, by simp⟩
  | there s ih =>
    intro fps h
    cases h with
    | cons r t =>
      obtain ⟨f, gs, h1, h2, p⟩ := ih t
      refine ⟨f, _ :: gs, h1, .cons r h2, ?_⟩
      simp only [List.flatten_cons]
      refine (List.Perm.trans ?_ (List.Perm.append_left _ p))
      rw [← List.append_assoc, ← List.append_assoc]
      exact List.Perm.append_right _ List.perm_append_comm
theorem Rel.sel {c : Cell} {H : Hp} {L L' : List Cell} (R : Rel H L) (s : Sel c L L') : Rel H (c :: L') := by
  obtain ⟨fps, r, nd⟩ := R
  obtain ⟨f, gs, h1, h2, p⟩ := s.fps r
  exact ⟨f :: gs, .cons h1 h2, p.nodup_iff.mpr nd⟩
theorem Rel.drop {c : Cell} {H : Hp} {L : List Cell} (R : Rel H (c :: L)) : Rel H L := by
  obtain ⟨fps, r, nd⟩ := R
  cases r with
  | cons r t => exact ⟨_, t, (List.nodup_append.mp (by simpa using nd)).2.1⟩
theorem Rel.nil {H : Hp} : Rel H [] := ⟨[], .nil, List.nodup_nil⟩
theorem Rel.raw0 {H : Hp} {a : Addr} {o : HO} {L : List Cell} (R : Rel H ((a, raw o) :: L)) : H a = some o := by
  obtain ⟨fps, r, nd⟩ := R
  cases r with | cons r t => exact r.1
theorem Rel.at {H : Hp} {a : Addr} {o : HO} {L L' : List Cell} (R : Rel H L) (s : Sel (a, raw o) L L') : H a = some o := (R.sel s).raw0
theorem Rel.pers {H H' : Hp} {L : List Cell} (R : Rel H L) (p : Pers H H') (k : ∀ b o, H b = some o → H' b = some o) : Rel H' L := by
  obtain ⟨fps, r, nd⟩ := R
  exact ⟨fps, all_loc p r (fun b hb => by obtain ⟨o, e⟩ := all_own r b hb; rw [e, k b o e]), nd⟩
theorem Rel.put0 {H : Hp} {a : Addr} {o o' : HO} {L : List Cell} (R : Rel H ((a, raw o) :: L)) (n : isPers o = false) : Rel (upd H a o') ((a, raw o') :: L) := by
  have h0 := R.raw0
  obtain ⟨fps, r, nd⟩ := R
  cases r with
  | cons r t =>
    obtain ⟨h, rfl⟩ := r
    refine ⟨[a] :: _, .cons ⟨upd_same, rfl⟩ (all_loc (Pers.upd h n) t fun b hb => ?_), nd⟩
    rw [upd_ne]
    rintro rfl
    simp at nd
    obtain ⟨l, hl, hb⟩ := List.mem_flatten.mp hb
    exact nd.1 l hl hb
theorem Rel.put {H : Hp} {a : Addr} {o o' : HO} {L L' : List Cell} (R : Rel H L) (s : Sel (a, raw o) L L') (n : isPers o = false := by rfl) : Rel (upd H a o') ((a, raw o') :: L') := (R.sel s).put0 n
theorem Rel.new {H : Hp} {a : Addr} {o : HO} {L : List Cell} (R : Rel H L) (h : H a = none) : Rel (upd H a o) ((a, raw o) :: L) := by
  obtain ⟨fps, r, nd⟩ := R
  refine ⟨[a] :: fps, .cons ⟨upd_same, rfl⟩ (all_loc (Pers.new h) r fun b hb => ?_), ?_⟩
  · obtain ⟨o, e⟩ := all_own r b hb
    rw [upd_ne (ne_of_none e h)]
  · simp only [List.flatten_cons, List.cons_append, List.nil_append, List.nodup_cons]
    refine ⟨fun hb => ?_, nd⟩
    obtain ⟨o, e⟩ := all_own r a hb
    rw [h] at e; cases e
theorem Rel.seq0 {K : PySem.W.Frag} {H : Hp} {a : Addr} {xs : List V} {L : List Cell} (R : Rel H ((a, seqO K xs) :: L)) : SqL K H a xs := by
  obtain ⟨fps, r, nd⟩ := R
  cases r with
  | cons r t =>
    rcases r with ⟨h, _⟩ | ⟨_, h, _⟩
    · exact .inl (.inl h)
    · exact h
/-- what is read as a list: a cell of ours or a sequence -/
inductive Lst (K : PySem.W.Frag) (a : Addr) (xs : List V) (L : List Cell) : Prop where
  | raw {L'} : Sel (a, raw (.lst xs)) L L' → Lst K a xs L
  | seq {L'} : Sel (a, seqO K xs) L L' → Lst K a xs L
theorem Lst.sq {K : PySem.W.Frag} {a : Addr} {xs : List V} {L : List Cell} {H : Hp} (l : Lst K a xs L) (R : Rel H L) : SqL K H a xs := by
  cases l with
  | raw s => exact .inl (.inl (R.at s))
  | seq s => exact (R.sel s).seq0
theorem Rel.ofSq {K : PySem.W.Frag} {H : Hp} {a : Addr} {xs : List V} (h : SqL K H a xs) : Rel H [(a, seqO K xs)] := by
  by_cases hl : H a = some (.lst xs)
  · exact ⟨[[a]], .cons (.inl ⟨hl, rfl⟩) .nil, by simp⟩
  · refine ⟨[[]], .cons (.inr ⟨rfl, h, fun H' p => ?_⟩) .nil, by simp⟩
    rcases h with (h | ⟨o, h⟩) | h
    · exact absurd h hl
    · exact .inl (.inr ⟨o, p.frz h⟩)
    · exact .inr h
/-- a tuple: never changes, owned by nobody -/
def tupO (xs : List V) : BO where
  sat H a fp := H a = some (.tup xs) ∧ fp = []
  loc H H' a fp h k p := ⟨p.tup h.1, h.2⟩
  own H a fp h b hb := by rw [h.2] at hb; simp at hb
theorem Rel.tup0 {H : Hp} {a : Addr} {xs : List V} {L : List Cell} (R : Rel H ((a, tupO xs) :: L)) : H a = some (.tup xs) := by
  obtain ⟨fps, r, nd⟩ := R
  cases r with | cons r t => exact r.1
theorem Rel.tup {H : Hp} {a : Addr} {xs : List V} {L L' : List Cell} (R : Rel H L) (s : Sel (a, tupO xs) L L') : H a = some (.tup xs) := (R.sel s).tup0
theorem Rel.asTup {H : Hp} {a : Addr} {xs : List V} {L : List Cell} (R : Rel H ((a, raw (.tup xs)) :: L)) : Rel H ((a, tupO xs) :: L) := by
  obtain ⟨fps, r, nd⟩ := R
  cases r with
  | cons r t => exact ⟨[] :: _, .cons ⟨r.1, rfl⟩ t, by simp at nd ⊢; rw [r.2] at nd; exact (List.nodup_cons.mp nd).2⟩
/-- what is known of a tuple is a cell -/
theorem Rel.addTup {H : Hp} {a : Addr} {xs : List V} {L : List Cell} (R : Rel H L) (h : H a = some (.tup xs)) : Rel H ((a, tupO xs) :: L) := by
  obtain ⟨fps, r, nd⟩ := R
  exact ⟨[] :: fps, .cons ⟨h, rfl⟩ r, by simpa using nd⟩
theorem Rel.newTup {H : Hp} {a : Addr} {xs : List V} {L : List Cell} (R : Rel H L) (h : H a = none) : Rel (upd H a (.tup xs)) ((a, tupO xs) :: L) := (R.new h).asTup
/-- several cells at once -/
inductive Sels : List Cell → List Cell → List Cell → Prop where
  | nil {L} : Sels [] L L
  | cons {c cs L L1 L2} : Sel c L L1 → Sels cs L1 L2 → Sels (c :: cs) L L2
theorem Sel.app {c : Cell} {L L' : List Cell} (s : Sel c L L') (M : List Cell) : Sel c (L ++ M) (L' ++ M) := by
  induction s with
  | here => exact .here
  | there s ih => exact .there ih
theorem Rel.toFront {H : Hp} {c : Cell} : ∀ {A B : List Cell}, Rel H (c :: (A ++ B)) → Rel H (A ++ c :: B) := by
  intro A B ⟨fps, r, nd⟩
  cases r with
  | cons r t =>
    obtain ⟨x, y, rfl, h1, h2⟩ := paired_split t
    refine ⟨x ++ _ :: y, paired_app h1 (.cons r h2), ?_⟩
    refine (List.Perm.nodup_iff ?_).mpr nd
    simp only [List.flatten_append, List.flatten_cons]
    rw [← List.append_assoc, ← List.append_assoc]
    exact List.Perm.append_right _ List.perm_append_comm
theorem Rel.sels {cs : List Cell} {H : Hp} {L L' : List Cell} (R : Rel H L) (s : Sels cs L L') : Rel H (cs ++ L') := by
  induction s with
  | nil => exact R
  | cons s t ih =>
    rename_i c cs L L1 L2
    have R1 := R.sel s
    obtain ⟨fps, r, nd⟩ := R1
    cases r with
    | cons r t' =>
      rename_i f fps
      -- the rest by induction, keeping c in front
      have key : ∀ {L L2 : List Cell} {cs : List Cell}, Sels cs L L2 → ∀ {fps : List (List Addr)}, Paired (Sat H) L fps → ∃ gs, Paired (Sat H) (cs ++ L2) gs ∧ gs.flatten.Perm fps.flatten := by
        intro L L2 cs s
        induction s with
        | nil => intro fps h; exact ⟨fps, h, List.Perm.refl _⟩
        | cons s1 s2 ih2 =>
          intro fps h
          obtain ⟨f, gs, h1, h2, p⟩ := s1.fps h
          obtain ⟨gs2, h3, p2⟩ := ih2 h2
          exact ⟨f :: gs2, .cons h1 h3, (List.Perm.append_left f p2).trans p⟩
      obtain ⟨gs, h3, p3⟩ := key t t'
      exact ⟨f :: gs, .cons r h3, ((List.Perm.append_left f p3).nodup_iff).mpr nd⟩
end Wn
namespace Wn
open PySem L2

/-! ### steps through a reading -/
section
variable {K : PySem.W.Frag} {σ : St} {H : Hp} {Q : VK} {D : Ends} {ta tb tc te : TE} {t u : TS} {g : TG} {tt tu : TT} {tar : TA} {v w x y : V} {i : Nat} {L L' : List Cell}
theorem go_var (h : σ[i]? = some (some v)) (q : Q v H) : tVar i σ H Q := ⟨v, h, q⟩
theorem go_c (q : Q v H) : tC v σ H Q := q
theorem go_op {r : R2} (q : ta σ H fun x H1 => tb σ H1 fun y H2 => r x y H2 Q) : tOp r ta tb σ H Q := q
theorem go_un {r : V → Hp → VK → Prop} (q : ta σ H fun x H1 => r x H1 Q) : tUn r ta σ H Q := q
theorem go_I0 {f : Int → Int → V} {m n : Int} (q : Q (f m n) H) : rI0 f (.int m) (.int n) H Q := ⟨m, n, rfl, rfl, q⟩
theorem go_I {C : Int → Int → Prop} {f : Int → Int → V} {m n : Int} (c : C m n) (q : Q (f m n) H) : rI C f (.int m) (.int n) H Q := ⟨m, n, rfl, rfl, c, q⟩
theorem go_U {f : Int → V} {m : Int} (q : Q (f m) H) : rU f (.int m) H Q := ⟨m, rfl, q⟩
theorem go_eq (c : scal x y = true) (q : Q (.bl (decide (x = y))) H) : rEq x y H Q := ⟨c, q⟩
theorem go_ne (c : scal x y = true) (q : Q (.bl (!decide (x = y))) H) : rNe x y H Q := ⟨c, q⟩
theorem go_test (q : ta σ H fun x H' => ∃ k, x = .bl k ∧ Qb k H') : tTest ta σ H Qb := q
theorem go_B {Qb : Bool → Hp → Prop} (q : ta σ H fun x H' => ∃ k, x = .bl k ∧ Qb k H') : tB ta σ H Qb := q
theorem go_bl {Pb : Bool → Prop} {b : Bool} (q : Pb b) : ∃ k, V.bl b = .bl k ∧ Pb k := ⟨b, rfl, q⟩
theorem go_and {Qb : Bool → Hp → Prop} (q : tt σ H fun c H1 => if c = true then tu σ H1 Qb else Qb false H1) : tAnd tt tu σ H Qb := q
theorem go_or {Qb : Bool → Hp → Prop} (q : tt σ H fun c H1 => if c = true then Qb true H1 else tu σ H1 Qb) : tOr tt tu σ H Qb := q
theorem go_not {Qb : Bool → Hp → Prop} (q : tt σ H fun c H1 => Qb (!c) H1) : tNot tt σ H Qb := q
theorem go_andV (q : ta σ H fun x H1 => ∃ c, x = .bl c ∧ if c = true then tb σ H1 Q else Q (.bl false) H1) : tAndV ta tb σ H Q := q
theorem go_orV (q : ta σ H fun x H1 => ∃ c, x = .bl c ∧ if c = true then Q (.bl true) H1 else tb σ H1 Q) : tOrV ta tb σ H Q := q
theorem go_notV (q : ta σ H fun x H1 => ∃ c, x = .bl c ∧ Q (.bl (!c)) H1) : tNotV ta σ H Q := q
theorem go_chain {r r' : R2} (q : ta σ H fun x H1 => tb σ H1 fun y H2 => r x y H2 fun z H3 => ∃ k, z = .bl k ∧ (if k = true then tc σ H3 fun w' H4 => r' y w' H4 Q else Q (.bl false) H3)) : tChain r r' ta tb tc σ H Q := q
theorem go_ifE (q : tt σ H fun c H1 => if c = true then ta σ H1 Q else tb σ H1 Q) : tIf tt ta tb σ H Q := q
theorem go_seq (q : t { D with nx := u D } σ H) : tSeq t u D σ H := q
theorem go_asg (q : te σ H fun x H1 => g x σ H1 D.nx) : tAsg te g D σ H := q
theorem go_name {Qs : St → Hp → Prop} (q : Qs (σ.set i (some v)) H) : gName i v σ H Qs := q
theorem go_ifS (q : tt σ H fun b H1 => if b = true then t D σ H1 else u D σ H1) : tIfS tt t u D σ H := q
theorem go_ret (q : te σ H D.rt) : tRet te D σ H := q
theorem go_retN (q : D.rt .non H) : tRetN D σ H := q
theorem go_next (q : D.nx σ H) : tNext D σ H := q
theorem go_brk (q : D.bk σ H) : tBreak D σ H := q
theorem go_cont (q : D.ct σ H) : tCont D σ H := q
theorem go_drop (q : te σ H fun _ H1 => D.nx σ H1) : tDrop te D σ H := q
theorem go_cons {Qa : List V → Hp → Prop} (q : ta σ H fun x H1 => tar σ H1 fun xs H2 => Qa (x :: xs) H2) : tCons ta tar σ H Qa := q
theorem go_nil {Qa : List V → Hp → Prop} (q : Qa [] H) : tNil σ H Qa := q
theorem go_aug {ti : TIp} (h : σ[i]? = some (some x)) (q : te σ H fun y H1 => ti x y H1 fun z H2 => D.nx (σ.set i (some z)) H2) : tAug i te ti D σ H := ⟨x, h, q⟩
theorem go_ipI {f : Int → Int → Int} {m n : Int} (q : Q (.int (f m n)) H) : ipI f (.int m) (.int n) H Q := ⟨m, n, rfl, rfl, q⟩
theorem go_isN (q : Q (.bl (decide (x = .non))) H) : (fun x y H Q => y = .non ∧ Q (.bl (decide (x = .non))) H : R2) x .non H Q := ⟨rfl, q⟩
theorem ite_d {p : Prop} [Decidable p] {A B : Prop} (h1 : p → A) (h2 : ¬ p → B) : if decide p = true then A else B := by
  by_cases h : p
  · rw [if_pos (decide_eq_true h)]; exact h1 h
  · rw [if_neg (by rw [decide_eq_true_iff]; exact h)]; exact h2 h
theorem ite_b {b : Bool} {A B : Prop} (h1 : b = true → A) (h2 : b = false → B) : if b = true then A else B := by
  cases b with
  | true => exact h1 rfl
  | false => exact h2 rfl
theorem ite_nd {p : Prop} [Decidable p] {A B : Prop} (h1 : ¬ p → A) (h2 : p → B) : if (!decide p) = true then A else B := by
  by_cases h : p
  · rw [decide_eq_true h]; exact h2 h
  · rw [decide_eq_false h]; exact h1 h
theorem ite_t {b : Bool} {A B : Prop} (h : b = true) (h1 : A) : if b = true then A else B := by subst h; exact h1
theorem ite_f {b : Bool} {A B : Prop} (h : b = false) (h1 : B) : if b = true then A else B := by subst h; exact h1

/-! fields, lists, tuples by cells -/
structure ClsF (K : PySem.W.Frag) (C : Addr) (fields : List Str) : Prop where
  cls : Cls K C
  na : ∀ f ∈ fields, NoAttr K C f
/-- x.f, x known -/
def FldAt (K : PySem.W.Frag) (f : Str) (Q : VK) (x : V) (H : Hp) : Prop := ∃ a C dx fs v, x = .ref a ∧ H a = some (.ins C dx fs) ∧ Cls K C ∧ NoAttr K C f ∧ fs.lookup f = some v ∧ Q v H
theorem go_fld {f : Str} (q : ta σ H (FldAt K f Q)) : tFld K ta f σ H Q := q
theorem fld_at {a C dx : Addr} {fs : List (Str × V)} {f : Str} {F : List Str} (T : ClsF K C F) (R : Rel H L) (s : Sel (a, raw (.ins C dx fs)) L L') (hf : f ∈ F) (hl : fs.lookup f = some v) (q : Q v H) : FldAt K f Q (.ref a) H := ⟨a, C, dx, fs, v, rfl, R.at s, T.cls, T.na f hf, hl, q⟩
theorem ixL_at {a : Addr} {xs : List V} {n : Int} (R : Rel H L) (l : Lst K a xs L) (h : atI xs n = some v) (q : Q v H) : rIxL K (.ref a) (.int n) H Q := ⟨a, xs, n, v, rfl, rfl, l.sq R, h, q⟩
theorem ixT_at {a : Addr} {xs : List V} {n : Int} (R : Rel H L) (s : Sel (a, tupO xs) L L') (h : atI xs n = some v) (q : Q v H) : rIxT K (.ref a) (.int n) H Q := ⟨a, xs, n, v, rfl, rfl, .inl (.inl (R.tup s)), h, q⟩
def NewL (Q : VK) (xs : List V) (H : Hp) : Prop := xs.length ≤ sizeLine ∧ ∀ p, H p = none → Q (.ref p) (upd H p (.lst xs))
def NewT (Q : VK) (xs : List V) (H : Hp) : Prop := xs.length ≤ sizeLine ∧ ∀ p, H p = none → Q (.ref p) (upd H p (.tup xs))
theorem lst_new {xs : List V} (R : Rel H L) (hl : xs.length ≤ 1000000) (q : ∀ a H', Rel H' ((a, raw (.lst xs)) :: L) → Q (.ref a) H') : NewL Q xs H :=
  ⟨by rw [PySem.sizeLine_eq]; omega, fun p hp => q p _ (R.new hp)⟩
theorem tup_new {xs : List V} (R : Rel H L) (hl : xs.length ≤ 1000000) (q : ∀ a H', Rel H' ((a, tupO xs) :: L) → Q (.ref a) H') : NewT Q xs H :=
  ⟨by rw [PySem.sizeLine_eq]; omega, fun p hp => q p _ (R.newTup hp)⟩
theorem go_tup (q : tar σ H (NewT Q)) : tTup tar σ H Q := q
theorem go_lst (q : tar σ H (NewL Q)) : tLst tar σ H Q := q
theorem go_CB {r : List V → Hp → VK → Prop} (q : tar σ H fun vs H1 => r vs H1 Q) : tCB r tar σ H Q := q
end
/-! ### promises by cells -/
/-- from the cells `pre` to the answers and cells `post` -/
def SpS (P : List V → List Cell → (V → List Cell → Prop) → Prop) : Sp := fun vs H Q _ => ∃ L pre F, Rel H L ∧ Sels pre L F ∧ P vs pre fun v post => ∀ H', Rel H' (post ++ F) → Q v H'
theorem SpS.use {P : List V → List Cell → (V → List Cell → Prop) → Prop} {vs : List V} {H : Hp} {Q : VK} {E : XK} (h : SpS P vs H Q E) : ∃ pre F, Rel H (pre ++ F) ∧ P vs pre fun v post => ∀ H', Rel H' (post ++ F) → Q v H' := by
  obtain ⟨L, pre, F, R, s, p⟩ := h
  exact ⟨pre, F, R.sels s, p⟩
theorem SpS.call {P : List V → List Cell → (V → List Cell → Prop) → Prop} {vs : List V} {H : Hp} {Q : VK} {E : XK} {L pre F : List Cell} (R : Rel H L) (s : Sels pre L F) (p : P vs pre fun v post => ∀ H', Rel H' (post ++ F) → Q v H') : SpS P vs H Q E := ⟨L, pre, F, R, s, p⟩

/-! ### loops by cells -/
def InvS (I : St → List Cell → Prop) : St → Hp → Prop := fun σ H => ∃ L, Rel H L ∧ I σ L
structure WkS (J : It) (n : Nat) (G : List Cell → Prop) (Y : Nat → V → List Cell → Prop) : Prop where
  w : Walk J n (fun H => ∃ L, Rel H L ∧ G L) (fun i H x H' => ∀ L, Rel H L → G L → ∃ cs, Y i x cs ∧ Rel H' (cs ++ L))
theorem for_s {J : It} {n : Nat} {G : List Cell → Prop} {Y : Nat → V → List Cell → Prop} (w : WkS J n G Y) {g : TG} {tb : TS} {D : Ends} {σ : St} {H : Hp} {L : List Cell} (I : Nat → St → List Cell → Prop) (R : Rel H L) (h0 : I 0 σ L)
    (hG : ∀ i σ L, i ≤ n → I i σ L → G L)
    (hs : ∀ i x cs σ H L, i < n → I i σ L → Y i x cs → Rel H (cs ++ L) → g x σ H fun σ2 H2 => tb { D with nx := InvS (I (i + 1)), ct := InvS (I (i + 1)), bk := D.nx } σ2 H2)
    (hd : ∀ σ H L, Rel H L → I n σ L → D.nx σ H) :
    ∃ W : Nat → Nat → St → Hp → Prop, (∃ m, W 0 m σ H) ∧ ∀ i m σ H, W i m σ H →
      (J.stop i H ∧ D.nx σ H) ∨ (J.go i H ∧ ∃ N : St → Hp → Prop, (∀ σ' H', N σ' H' → ∃ m', m' < m ∧ W (i + 1) m' σ' H') ∧ ∀ x H', J.yld i H x H' → g x σ H' fun σ2 H2 => tb { D with nx := N, ct := N, bk := D.nx } σ2 H2) := by
  refine for_it w.w (fun i => InvS (I i)) ⟨L, R, h0⟩ (fun i σ H hi ⟨L, R, h⟩ => ⟨L, R, hG i σ L hi h⟩) (fun i x σ H H' hi ⟨L, R, h⟩ y => ?_) fun σ H ⟨L, R, h⟩ => hd σ H L R h
  obtain ⟨cs, hy, R'⟩ := y L R (hG i σ L (Nat.le_of_lt hi) h)
  exact hs i x cs σ H' L hi h hy R'
/-- a comprehension's list D so far, and the other cells -/
def InvC (I : Nat → List V → List Cell → Prop) (i : Nat) (D : Addr) (H : Hp) : Prop := ∃ acc L, Rel H ((D, raw (.lst acc)) :: L) ∧ acc.length ≤ i ∧ I i acc L
theorem lc_put {I : Nat → List V → List Cell → Prop} {i : Nat} {D : Addr} {H : Hp} {acc : List V} {y : V} {L L' : List Cell} (R : Rel H L) (s : Sel (D, raw (.lst acc)) L L') (hl : acc.length ≤ i) (hi : i < 100000) (h : I (i + 1) (acc ++ [y]) L') :
    ∃ acc', H D = some (.lst acc') ∧ acc'.length < sizeLine ∧ InvC I (i + 1) D (upd H D (.lst (acc' ++ [y]))) :=
  ⟨acc, R.at s, by rw [PySem.sizeLine_eq]; omega, acc ++ [y], L', R.put s, by simp; omega, h⟩
theorem lc_not {I : Nat → List V → List Cell → Prop} {i : Nat} {D : Addr} {H : Hp} {acc : List V} {L L' : List Cell} (R : Rel H L) (s : Sel (D, raw (.lst acc)) L L') (hl : acc.length ≤ i) (h : I (i + 1) acc L') : InvC I (i + 1) D H :=
  ⟨acc, L', R.sel s, by omega, h⟩
inductive Drops : List Cell → List Cell → Prop where
  | refl {L} : Drops L L
  | skip {c L L'} : Drops L L' → Drops (c :: L) L'
theorem Rel.drops {H : Hp} {F : List Cell} : ∀ {A L : List Cell}, Drops L F → Rel H (A ++ L) → Rel H (A ++ F) := by
  intro A L d
  induction d with
  | refl => exact id
  | skip d ih =>
    rename_i c L L'
    intro R
    refine ih ?_
    obtain ⟨fps, r, nd⟩ := R
    obtain ⟨x, y, rfl, h1, h2⟩ := paired_split r
    cases h2 with
    | cons r t =>
      refine ⟨x ++ _, paired_app h1 t, ?_⟩
      rw [List.flatten_append] at nd ⊢
      rw [List.flatten_cons] at nd
      obtain ⟨n1, n2, n3⟩ := List.nodup_append.mp nd
      obtain ⟨n4, n5, n6⟩ := List.nodup_append.mp n2
      exact List.nodup_append.mpr ⟨n1, n5, fun a ha b hb => n3 a ha b (List.mem_append.mpr (.inr hb))⟩
/-- these cells and what is behind, nothing else -/
theorem Rel.fin {cs : List Cell} {H : Hp} {L L' F : List Cell} (R : Rel H L) (s : Sels cs L L') (d : Drops L' F) : Rel H (cs ++ F) := (R.sels s).drops d
theorem lc_puts {I : Nat → List V → List Cell → Prop} {i : Nat} {D : Addr} {H : Hp} {acc : List V} {y : V} {cs F M M' : List Cell} (hl : acc.length ≤ i) (hi : i < 100000) (h : I (i + 1) (acc ++ [y]) (cs ++ F)) (R : Rel H M) (s : Sels ((D, raw (.lst acc)) :: cs) M M') (d : Drops M' F) :
    ∃ acc', H D = some (.lst acc') ∧ acc'.length < sizeLine ∧ InvC I (i + 1) D (upd H D (.lst (acc' ++ [y]))) := lc_put (R.fin s d) .here hl hi h
theorem lc_nots {I : Nat → List V → List Cell → Prop} {i : Nat} {D : Addr} {H : Hp} {acc : List V} {cs F M M' : List Cell} (hl : acc.length ≤ i) (h : I (i + 1) acc (cs ++ F)) (R : Rel H M) (s : Sels ((D, raw (.lst acc)) :: cs) M M') (d : Drops M' F) : InvC I (i + 1) D H := lc_not (R.fin s d) .here hl h
theorem inv_s {I : L2.St → List Cell → Prop} {σ : L2.St} {H : Hp} {cs F M M' : List Cell} (h : I σ (cs ++ F)) (R : Rel H M) (s : Sels cs M M') (d : Drops M' F) : InvS I σ H := ⟨_, R.fin s d, h⟩
theorem lc_s {J : It} {n : Nat} {G : List Cell → Prop} {Y : Nat → V → List Cell → Prop} (w : WkS J n G Y) {g : TG} {tt : TT} {te : TE} {vs : List Nat} {σ : St} {H : Hp} {Q : VK} {L : List Cell} (I : Nat → List V → List Cell → Prop) (R : Rel H L) (h0 : I 0 [] L)
    (hG : ∀ i acc L D, i ≤ n → I i acc L → G ((D, raw (.lst acc)) :: L))
    (hs : ∀ i x cs acc D H L, i < n → acc.length ≤ i → I i acc L → Y i x cs → Rel H (cs ++ (D, raw (.lst acc)) :: L) → g x (wipe σ vs) H fun σ2 H2 => wipe σ2 vs = wipe σ vs ∧ tt σ2 H2 fun b H3 =>
      if b = true then te σ2 H3 fun y H4 => ∃ acc', H4 D = some (.lst acc') ∧ acc'.length < sizeLine ∧ InvC I (i + 1) D (upd H4 D (.lst (acc' ++ [y]))) else InvC I (i + 1) D H3)
    (hd : ∀ acc D H L, Rel H ((D, raw (.lst acc)) :: L) → I n acc L → Q (.ref D) H) :
    ∀ D, H D = none → ∃ W : Nat → Nat → Hp → Prop, (∃ m, W 0 m (upd H D (.lst []))) ∧ ∀ i m H, W i m H →
      (J.stop i H ∧ Q (.ref D) H) ∨ (J.go i H ∧ ∃ Nx : Hp → Prop, (∀ H', Nx H' → ∃ m', m' < m ∧ W (i + 1) m' H') ∧ ∀ x H', J.yld i H x H' → g x (wipe σ vs) H' fun σ2 H2 => wipe σ2 vs = wipe σ vs ∧ tt σ2 H2 fun b H3 =>
        if b = true then te σ2 H3 fun y H4 => ∃ acc, H4 D = some (.lst acc) ∧ acc.length < sizeLine ∧ Nx (upd H4 D (.lst (acc ++ [y]))) else Nx H3) := by
  intro D hD
  refine lc_it w.w (fun i H => InvC I i D H) ⟨[], L, R.new hD, Nat.zero_le _, h0⟩ (fun i H hi ⟨acc, L, R, hl, h⟩ => ⟨_, R, hG i acc L D hi h⟩) (fun i x H H' hi ⟨acc, L, R, hl, h⟩ y => ?_) fun H ⟨acc, L, R, hl, h⟩ => hd acc D H L R h
  obtain ⟨cs, hy, R'⟩ := y _ R (hG i acc L D (Nat.le_of_lt hi) h)
  exact hs i x cs acc D H' L hi hl h hy R'

section
variable {K : PySem.W.Frag} {a : Addr} {xs : List V}
theorem wk_list : WkS (Itl K a) xs.length (fun L => Lst K a xs L) (fun i x cs => xs[i]? = some x ∧ cs = []) :=
  ⟨(walk_list (K := K) (a := a) (xs := xs)).mono (fun H ⟨L, R, l⟩ => l.sq R) fun i H x H' hi _ y L R l => by
    obtain ⟨rfl, y⟩ := y
    exact ⟨[], ⟨y, rfl⟩, R⟩⟩
theorem wk_tup : WkS (Itt K a) xs.length (fun L => ∃ L', Sel (a, tupO xs) L L') (fun i x cs => xs[i]? = some x ∧ cs = []) :=
  ⟨(walk_tup (K := K) (a := a) (xs := xs)).mono (fun H ⟨L, R, _, s⟩ => .inl (.inl (R.tup s))) fun i H x H' hi _ y L R l => by
    obtain ⟨rfl, y⟩ := y
    exact ⟨[], ⟨y, rfl⟩, R⟩⟩
theorem wk_range {lo : Int} {n : Nat} : WkS (Itr lo n) n (fun _ => True) (fun i x cs => x = .int (lo + i) ∧ cs = []) :=
  ⟨(walk_range (lo := lo) (n := n)).mono (fun _ _ => trivial) fun i H x H' hi _ y L R l => by
    obtain ⟨rfl, y⟩ := y
    exact ⟨[], ⟨y, rfl⟩, R⟩⟩
theorem wk_rangeC {lo c : Int} {n : Nat} : WkS (Itc lo c n) n (fun _ => True) (fun i x cs => x = .int (lo + (i : Nat) * c) ∧ cs = []) :=
  ⟨(walk_rangeC (lo := lo) (c := c) (n := n)).mono (fun _ _ => trivial) fun i H x H' hi _ y L R l => by
    obtain ⟨rfl, y⟩ := y
    exact ⟨[], ⟨y, rfl⟩, R⟩⟩
theorem wk_enum : WkS (Ite K a) xs.length (fun L => Lst K a xs L) (fun i x cs => ∃ T y, xs[i]? = some y ∧ x = .ref T ∧ cs = [(T, tupO [.int (i : Nat), y])]) :=
  ⟨(walk_enum (K := K) (a := a) (xs := xs)).mono (fun H ⟨L, R, l⟩ => l.sq R) fun i H x H' hi _ y L R l => by
    obtain ⟨T, x1, y1, rfl, hT, rfl, e1, e2⟩ := y
    cases e1
    exact ⟨_, ⟨T, y1, e2, rfl, rfl⟩, R.newTup hT⟩⟩
end

end Wn
namespace Wn
open PySem PySem.Spec PyProof.Rows L2 RZ
/-! ### subscripts of lists read for an operator -/
theorem get_list {X : Cx} : PGet X (rIxL X.K) := by
  intro pins s σ H x y v u Q I rx ry h
  obtain ⟨p, xs, i, z, rfl, rfl, hq, he, q⟩ := h
  cases rx
  obtain ⟨t, rfl⟩ := ry
  obtain ⟨its, r, pl, hz⟩ := I.list hq
  obtain ⟨j, h1, h2, h3, h4, h5⟩ := atI_get he
  obtain ⟨w, ew, rw'⟩ := r.get h2
  have hl := r.length
  have hn := line63
  have fin : EP X pins σ Q w s := ⟨z, H, I, rw', q⟩
  by_cases h0 : 0 ≤ i
  · have hj : i.toNat = j := by
      rw [seqIndex_of h0 h5] at h1
      exact Option.some.inj h1
    exact thn (PySem.wpAny_getItem_list (Q := fun r s' => r = w ∧ EP X pins σ Q r s') pl.isList h0 (by omega) (by rw [hj]; simpa using ew) ⟨rfl, fin⟩) fun a s h => h.2
  · have hj : (i + (its.toArray.size : Int)).toNat = j := by
      rw [seqIndex_neg (by omega) h4] at h1
      rw [List.size_toArray, ← hl]
      exact Option.some.inj h1
    exact thn (PySem.wpAny_getItem_list_neg (Q := fun r s' => r = w ∧ EP X pins σ Q r s') pl.isList (by omega) (by rw [List.size_toArray] <;> omega) (by omega) (by rw [hj]; simpa using ew) ⟨rfl, fin⟩) fun a s h => h.2
/-- len(set(xs)), xs a list of ints -/
def tLenSetD (K : PySem.W.Frag) (ta : TE) : TE := fun σ H Q => ta σ H fun x H1 => ∃ (l : Addr) (ns : List Int), x = .ref l ∧ SqL K H1 l (ns.map V.int) ∧ ns.length ≤ 4000 ∧ Q (.int ((PyProof.Rows.firstMet (fun i => ns.getD i 0) ns.length).length : Nat)) H1
theorem firstMet_len (f : Nat → Int) : ∀ n, (PyProof.Rows.firstMet f n).length ≤ n
  | 0 => Nat.le_refl _
  | n + 1 => by
    rw [PyProof.Rows.firstMet_succ]
    have := firstMet_len f n
    show (if (PyProof.Rows.firstMet f n).any (· == f n) then PyProof.Rows.firstMet f n else PyProof.Rows.firstMet f n ++ [f n]).length ≤ n + 1
    split
    · omega
    · simp; omega
theorem pe_lenSetD {X : Cx} {a : Expr} {ta : TE} {p p2 q pos : Pos} (hg : Gl X "len") (hm : X.mg "len" = none) (hg2 : Gl X "set") (hm2 : X.mg "set" = none) (ha : PE X a ta) (hc : X.calm = true := by rfl)
    (na : starEach [a] X.env = (false, eval a X.env) :: starEach [] X.env := by rfl) : PE X (.Call (.Name "len" p) [.Call (.Name "set" p2) [a] [] q] [] pos) (tLenSetD X.K ta) := by
  refine ⟨fun pins s σ H Q I h => ?_⟩
  refine Call_ (ld_blt I hg hm boot_len ?_)
  refine PyProof.Rows.callWith_builtin1 (PyProof.Rows.args_cons ?_ rfl) rfl rfl
  refine Call_ (ld_blt I hg2 hm2 boot_set ?_)
  refine PyProof.Rows.callWith_type1 (PyProof.Rows.args_cons (thn (ha.run pins s σ H _ I h) fun v s1 ⟨x, H1, I1, r1, q1⟩ => PyProof.Rows.args_nil ?_) na) na rfl
  obtain ⟨l, ns, rfl, hq, hl, q1⟩ := q1
  cases r1
  obtain ⟨its, r, pl, hz⟩ := I1.list hq
  have hlen : its.toArray.size = ns.length := by rw [List.size_toArray, ← r.length, List.length_map]
  refine call_set_list (I1.ok.hd hc) pl.isList (by simpa using intsAre_vals r) (by rw [hlen]; unfold scanBound; omega) fun h' tk hS hk => ?_
  refine PyProof.Rows.args_nil ?_
  rw [hlen] at hS
  have hfm := firstMet_len (fun i => ns.getD i 0) ns.length
  obtain ⟨o, es, ep, t, ho, hex, hd, _, _, _, hf, hn⟩ := hS
  have I2 : Inv X pins σ H1 { s1 with heap := h', toks := tk } := I1.kept fun b o e => hk b o (Heap.lt_size e) e
  exact call_len_set ho hex hd hf (by rw [hn] <;> omega) ⟨.int _, H1, I2.tok _, ⟨_, by rw [hn]⟩, q1⟩
end Wn
namespace Wn
open PySem L2
/-! ### readings by name -/
abbrev rAddI : R2 := rI0 fun i j => .int (i + j)
abbrev rSubI : R2 := rI0 fun i j => .int (i - j)
abbrev rMulI : R2 := rI CMul fun i j => .int (i * j)
abbrev rModI : R2 := rI (fun _ j => 0 < j) fun i j => .int (i % j)
abbrev rDivI : R2 := rI CDiv fun i j => .int (i / j)
abbrev rPowI : R2 := rI CPow fun i j => .int (i ^ j.toNat)
abbrev rShlI : R2 := rI CPow fun i j => .int (i * 2 ^ j.toNat)
abbrev rShrI : R2 := rI (fun _ j => 0 ≤ j) fun i j => .int (i / 2 ^ j.toNat)
abbrev rAndI : R2 := rI0 fun i j => .int (Builtin.bitAnd i j)
abbrev rOrI : R2 := rI0 fun i j => .int (Builtin.bitOr i j)
abbrev rNegI : V → Hp → VK → Prop := rU fun i => .int (-i)
abbrev rLtI : R2 := rI0 fun i j => .bl (decide (i < j))
abbrev rLeI : R2 := rI0 fun i j => .bl (decide (i ≤ j))
abbrev rGtI : R2 := rI0 fun i j => .bl (decide (j < i))
abbrev rGeI : R2 := rI0 fun i j => .bl (decide (j ≤ i))
def rIsN : R2 := fun x y H Q => y = .non ∧ Q (.bl (decide (x = .non))) H
def rNotN : R2 := fun x y H Q => y = .non ∧ Q (.bl (!decide (x = .non))) H
def rLenV (K : PySem.W.Frag) : List V → Hp → VK → Prop := fun xs H Q => ∃ x n, xs = [x] ∧ LenV K x H n ∧ Q (.int n) H
def rListOf (K : PySem.W.Frag) : List V → Hp → VK → Prop := fun xs H Q => ∃ p ys, xs = [.ref p] ∧ (SqL K H p ys ∨ SqT K H p ys) ∧ ∀ l, H l = none → Q (.ref l) (upd H l (.lst ys))
def rMax2 : List V → Hp → VK → Prop := fun xs H Q => ∃ i j, xs = [.int i, .int j] ∧ Q (.int (if j > i then j else i)) H
def rMin2 : List V → Hp → VK → Prop := fun xs H Q => ∃ i j, xs = [.int i, .int j] ∧ Q (.int (if j < i then j else i)) H
def rAbsI : List V → Hp → VK → Prop := fun xs H Q => ∃ i, xs = [.int i] ∧ Q (.int (if i < 0 then -i else i)) H
def tChainT (r r' : R2) (ta tb tc : TE) : TT := tTest (tChain r r' ta tb tc)
section
variable {K : PySem.W.Frag} {σ : L2.St} {H : Hp} {Q : VK} {D : Ends} {ta tb tc te : TE} {tar : TA} {x y z v : V} {L L' : List Cell} {a : Addr} {xs : List V}
theorem go_chainT {r r' : R2} {Qb : Bool → Hp → Prop} (q : ta σ H fun x H1 => tb σ H1 fun y H2 => r x y H2 fun z H3 => ∃ k, z = .bl k ∧ (if k = true then tc σ H3 fun w' H4 => r' y w' H4 (fun x H' => ∃ k, x = .bl k ∧ Qb k H') else (fun x H' => ∃ k, x = V.bl k ∧ Qb k H') (.bl false) H3)) : tChainT r r' ta tb tc σ H Qb := q
theorem go_rIsN (q : Q (.bl (decide (x = .non))) H) : rIsN x .non H Q := ⟨rfl, q⟩
theorem go_rNotN (q : Q (.bl (!decide (x = .non))) H) : rNotN x .non H Q := ⟨rfl, q⟩
theorem go_len (R : Rel H L) (l : Lst K a xs L) (q : Q (.int (xs.length : Int)) H) : rLenV K [V.ref a] H Q := ⟨_, xs.length, rfl, .inl ⟨xs, l.sq R, rfl⟩, q⟩
theorem go_listOf (R : Rel H L) (l : Lst K a xs L) (q : ∀ b H', Rel H' ((b, raw (.lst xs)) :: L) → Q (.ref b) H') : rListOf K [V.ref a] H Q := ⟨_, xs, rfl, .inl (l.sq R), fun b hb => q b _ (R.new hb)⟩
theorem go_call {sp : Sp} {dvs : List V} {E : XK} (q : tar σ H fun vs H1 => sp (vs ++ dvs) H1 Q E) : tCall sp dvs E tar σ H Q := q
def MethAt (C : Addr) (m : Str) (sp : Sp) (dvs : List V) (E : XK) (tar : TA) (σ : L2.St) (Q : VK) (x : V) (H1 : Hp) : Prop := ∃ a dx fs, x = .ref a ∧ H1 a = some (.ins C dx fs) ∧ fs.lookup m = none ∧ tar σ H1 fun vs H2 => sp (x :: (vs ++ dvs)) H2 Q E
theorem go_meth {C : Addr} {m : Str} {sp : Sp} {dvs : List V} {E : XK} (q : te σ H (MethAt C m sp dvs E tar σ Q)) : tMeth C m sp dvs E te tar σ H Q := q
theorem meth_at {C dx : Addr} {fs : List (Str × V)} {m : Str} {sp : Sp} {dvs : List V} {E : XK} (h : H a = some (.ins C dx fs)) (hm : fs.lookup m = none) (q : tar σ H fun vs H2 => sp (.ref a :: (vs ++ dvs)) H2 Q E) : MethAt C m sp dvs E tar σ Q (.ref a) H := ⟨a, dx, fs, rfl, h, hm, q⟩
def MakeAt (C : Addr) (sp : Sp) (dvs : List V) (E : XK) (Q : VK) (vs : List V) (H1 : Hp) : Prop := ∀ x dx, H1 x = none → H1 dx = none → dx ≠ x → sp (.ref x :: (vs ++ dvs)) (upd (upd H1 dx (.own x)) x (.ins C dx [])) (fun v H2 => v = .non ∧ Q (.ref x) H2) E
theorem go_make {C : Addr} {sp : Sp} {dvs : List V} {E : XK} (q : tar σ H (MakeAt C sp dvs E Q)) : tMake C sp dvs E tar σ H Q := q
theorem new_ins {C x dx : Addr} (R : Rel H L) (h1 : H x = none) (h2 : H dx = none) (h3 : dx ≠ x) : Rel (upd (upd H dx (.own x)) x (.ins C dx [])) ((x, raw (.ins C dx [])) :: L) :=
  ((R.new h2).drop).new (by rw [upd_ne (Ne.symm h3)]; exact h1)
theorem make_at {C : Addr} {sp : Sp} {dvs : List V} {E : XK} {vs : List V} (R : Rel H L) (q : ∀ x dx H', Rel H' ((x, raw (.ins C dx [])) :: L) → sp (.ref x :: (vs ++ dvs)) H' (fun v H2 => v = .non ∧ Q (.ref x) H2) E) : MakeAt C sp dvs E Q vs H :=
  fun x dx h1 h2 h3 => q x dx _ (new_ins R h1 h2 h3)
def SFldAt (K : PySem.W.Frag) (f : Str) (D : Ends) (σ : L2.St) (y x : V) (H2 : Hp) : Prop := ∃ a C dx fs, x = .ref a ∧ H2 a = some (.ins C dx fs) ∧ Cls K C ∧ NoAttr K C f ∧ fs.length < 1000 ∧ D.nx σ (upd H2 a (.ins C dx (putF f y fs)))
theorem go_sfld {tv : TE} {f : Str} (q : tv σ H fun y H1 => ta σ H1 (SFldAt K f D σ y)) : sFld K ta tv f D σ H := q
theorem sfld_at {a C dx : Addr} {fs gs : List (Str × V)} {f : Str} {y : V} {Fs : List Str} (T : ClsF K C Fs) (R : Rel H L) (s : Sel (a, raw (.ins C dx fs)) L L') (hf : f ∈ Fs) (hl : fs.length < 1000) (hg : putF f y fs = gs)
    (q : ∀ H', Rel H' ((a, raw (.ins C dx gs)) :: L') → D.nx σ H') : SFldAt K f D σ y (.ref a) H :=
  ⟨a, C, dx, fs, rfl, R.at s, T.cls, T.na f hf, hl, q _ (by rw [hg]; exact R.put s)⟩
def SubAt (t : TSet) (Qs : L2.St → Hp → Prop) (σ : L2.St) (v o i : V) (H : Hp) : Prop := t o i v H fun H3 => Qs σ H3
theorem go_sub {to ti : TE} {t : TSet} {Qs : L2.St → Hp → Prop} (q : to σ H fun o H1 => ti σ H1 (SubAt t Qs σ v o)) : gSub to ti t v σ H Qs := q
theorem sub_at {Qs : L2.St → Hp → Prop} {i : Int} {j : Nat} (R : Rel H L) (s : Sel (a, raw (.lst xs)) L L') (hj : ixN xs.length i = some j) (q : ∀ H', Rel H' ((a, raw (.lst (xs.set j v))) :: L') → Qs σ H') : SubAt rSetL Qs σ v (.ref a) (.int i) H :=
  ⟨a, xs, i, j, rfl, rfl, R.at s, hj, q _ (R.put s)⟩
def AugAt (te : TE) (tget : V → V → Hp → VK → Prop) (tip : TIp) (tset : TSet) (D : Ends) (σ : L2.St) (o i : V) (H2 : Hp) : Prop := tget o i H2 fun x H3 => te σ H3 fun y H4 => tip x y H4 fun z H5 => tset o i z H5 fun H6 => D.nx σ H6
theorem go_augS {to ti : TE} {tget : V → V → Hp → VK → Prop} {tip : TIp} {tset : TSet} (q : to σ H fun o H1 => ti σ H1 (AugAt te tget tip tset D σ o)) : tAugS to ti te tget tip tset D σ H := q
theorem aug_at {f : Int → Int → Int} {i m n : Int} {j : Nat} (R : Rel H L) (s : Sel (a, raw (.lst xs)) L L') (hj : ixN xs.length i = some j) (hx : xs[j]? = some (.int m)) (q : ∀ H', Rel H' ((a, raw (.lst (xs.set j (.int (f m n))))) :: L') → D.nx σ H') :
    AugAt (tC (.int n)) (rIxL K) (ipI f) rSetL D σ (.ref a) (.int i) H :=
  ⟨a, xs, i, .int m, rfl, rfl, .inl (.inl (R.at s)), (by unfold atI; rw [hj]; exact hx), m, n, rfl, rfl, a, xs, i, j, rfl, rfl, R.at s, hj, q _ (R.put s)⟩
theorem ixN_of {n : Nat} {i : Int} (h0 : 0 ≤ i) (h : i < n) : ixN n i = some i.toNat := by unfold ixN; rw [if_pos h0, if_pos h]
theorem atI_of {α : Type} {xs : List α} {i : Int} {x : α} (h0 : 0 ≤ i) (h : xs[i.toNat]? = some x) : atI xs i = some x := by
  have hl : i.toNat < xs.length := (List.getElem?_eq_some_iff.mp h).1
  unfold atI
  rw [ixN_of h0 (by omega)]
  exact h
theorem cutV_drop {xs : List V} {i : Nat} : cutV xs (some (i : Int)) none = xs.drop i := by
  unfold cutV
  rw [HT.sIx_nat, HT.sIx_none]
  by_cases h : i ≤ xs.length
  · rw [Nat.min_eq_left h, List.take_of_length_le (by simp)]
  · rw [Nat.min_eq_right (by omega), List.drop_length, List.drop_of_length_le (by omega)]; simp
theorem cutV_take {xs : List V} {i : Nat} : cutV xs none (some (i : Int)) = xs.take i := by
  unfold cutV
  rw [HT.sIx_nat, HT.sIx_none]
  show (xs.drop 0).take (min i xs.length - 0) = _
  rw [List.drop_zero, Nat.sub_zero, List.take_eq_take_min (i := i)]
/-! what is walked -/
/-- a for over J, ready to be shown by an invariant -/
def ForJ (g : TG) (tb : TS) (D : Ends) (σ : L2.St) (J : It) (H1 : Hp) : Prop := ∃ W : Nat → Nat → L2.St → Hp → Prop, (∃ m, W 0 m σ H1) ∧ ∀ i m σ H, W i m σ H →
      (J.stop i H ∧ D.nx σ H) ∨ (J.go i H ∧ ∃ N : L2.St → Hp → Prop, (∀ σ' H', N σ' H' → ∃ m', m' < m ∧ W (i + 1) m' σ' H') ∧ ∀ x H', J.yld i H x H' → g x σ H' fun σ2 H2 => tb { D with nx := N, ct := N, bk := D.nx } σ2 H2)
def LcJ (g : TG) (tt : TT) (te : TE) (vs : List Nat) (σ : L2.St) (Q : VK) (J : It) (H1 : Hp) : Prop := ∀ D, H1 D = none → ∃ W : Nat → Nat → Hp → Prop, (∃ m, W 0 m (upd H1 D (.lst []))) ∧ ∀ i m H, W i m H →
  (J.stop i H ∧ Q (.ref D) H) ∨ (J.go i H ∧ ∃ Nx : Hp → Prop, (∀ H', Nx H' → ∃ m', m' < m ∧ W (i + 1) m' H') ∧ ∀ x H', J.yld i H x H' → g x (wipe σ vs) H' fun σ2 H2 => wipe σ2 vs = wipe σ vs ∧ tt σ2 H2 fun b H3 =>
    if b = true then te σ2 H3 fun y H4 => ∃ acc, H4 D = some (.lst acc) ∧ acc.length < sizeLine ∧ Nx (upd H4 D (.lst (acc ++ [y]))) else Nx H3)
theorem go_for {wi : TI} {g : TG} {tb : TS} (q : wi σ H (ForJ g tb D σ)) : tFor wi g tb D σ H := q
theorem go_lc {wi : TI} {g : TG} {tt : TT} {te : TE} {ws : List Nat} (q : wi σ H (LcJ g tt te ws σ Q)) : tLc wi g tt te ws σ H Q := q
def IListAt (K : PySem.W.Frag) (Rj : It → Hp → Prop) (x : V) (H1 : Hp) : Prop := ∃ a, x = .ref a ∧ (∃ xs, SqL K H1 a xs) ∧ Rj (Itl K a) H1
def ITupAt (K : PySem.W.Frag) (Rj : It → Hp → Prop) (x : V) (H1 : Hp) : Prop := ∃ a, x = .ref a ∧ (∃ xs, SqT K H1 a xs) ∧ Rj (Itt K a) H1
def IEnumAt (K : PySem.W.Frag) (Rj : It → Hp → Prop) (vs : List V) (H1 : Hp) : Prop := ∃ a xs, vs = [.ref a] ∧ SqL K H1 a xs ∧ Rj (Ite K a) H1
def IRng1At (Rj : It → Hp → Prop) (vs : List V) (H1 : Hp) : Prop := ∃ j : Int, vs = [.int j] ∧ -(2 ^ 62) ≤ j ∧ j < 2 ^ 62 ∧ Rj (Itr 0 j.toNat) H1
def IRng2At (Rj : It → Hp → Prop) (vs : List V) (H1 : Hp) : Prop := ∃ i j : Int, vs = [.int i, .int j] ∧ (-(2 ^ 62) ≤ i ∧ i < 2 ^ 62 ∧ -(2 ^ 62) ≤ j ∧ j < 2 ^ 62) ∧ Rj (Itr i (j - i).toNat) H1
variable {Rj : It → Hp → Prop}
theorem go_iList (q : te σ H (IListAt K Rj)) : iList K te σ H Rj := q
theorem go_iTup (q : te σ H (ITupAt K Rj)) : iTup K te σ H Rj := q
theorem go_iEnum (q : tar σ H (IEnumAt K Rj)) : iEnum K tar σ H Rj := q
theorem go_iRng1 (q : tar σ H (IRng1At Rj)) : iRng1 tar σ H Rj := q
theorem go_iRng2 (q : tar σ H (IRng2At Rj)) : iRng2 tar σ H Rj := q
theorem rng1_at {n : Int} (h0 : 0 ≤ n) (hn : n ≤ 1000000) (q : Rj (Itr 0 n.toNat) H) : IRng1At Rj [V.int n] H := ⟨n, rfl, by omega, by omega, q⟩
theorem rng2_at {m n : Int} (h0 : 0 ≤ m ∧ m ≤ 1000000) (hn : 0 ≤ n ∧ n ≤ 1000000) (q : Rj (Itr m (n - m).toNat) H) : IRng2At Rj [V.int m, V.int n] H := ⟨m, n, rfl, by omega, q⟩
theorem iList_at (R : Rel H L) (l : Lst K a xs L) (q : Rj (Itl K a) H) : IListAt K Rj (.ref a) H := ⟨a, rfl, ⟨_, l.sq R⟩, q⟩
theorem iEnum_at (R : Rel H L) (l : Lst K a xs L) (q : Rj (Ite K a) H) : IEnumAt K Rj [V.ref a] H := ⟨a, xs, rfl, l.sq R, q⟩
theorem iTup_at (R : Rel H L) (s : Sel (a, tupO xs) L L') (q : Rj (Itt K a) H) : ITupAt K Rj (.ref a) H := ⟨a, rfl, ⟨_, .inl (.inl (R.tup s))⟩, q⟩
theorem forJ {J : It} {n : Nat} {G : List Cell → Prop} {Y : Nat → V → List Cell → Prop} (w : WkS J n G Y) {g : TG} {tb : TS} (I : Nat → L2.St → List Cell → Prop) (R : Rel H L) (h0 : I 0 σ L)
    (hG : ∀ i σ L, i ≤ n → I i σ L → G L)
    (hs : ∀ i x cs σ H L, i < n → I i σ L → Y i x cs → Rel H (cs ++ L) → g x σ H fun σ2 H2 => tb { D with nx := InvS (I (i + 1)), ct := InvS (I (i + 1)), bk := D.nx } σ2 H2)
    (hd : ∀ σ H L, Rel H L → I n σ L → D.nx σ H) : ForJ g tb D σ J H := for_s w I R h0 hG hs hd
theorem lcJ {J : It} {n : Nat} {G : List Cell → Prop} {Y : Nat → V → List Cell → Prop} (w : WkS J n G Y) {g : TG} {tt : TT} {te : TE} {vs : List Nat} (I : Nat → List V → List Cell → Prop) (R : Rel H L) (h0 : I 0 [] L)
    (hG : ∀ i acc L D, i ≤ n → I i acc L → G ((D, raw (.lst acc)) :: L))
    (hs : ∀ i x cs acc D H L, i < n → acc.length ≤ i → I i acc L → Y i x cs → Rel H (cs ++ (D, raw (.lst acc)) :: L) → g x (wipe σ vs) H fun σ2 H2 => wipe σ2 vs = wipe σ vs ∧ tt σ2 H2 fun b H3 =>
      if b = true then te σ2 H3 fun y H4 => ∃ acc', H4 D = some (.lst acc') ∧ acc'.length < sizeLine ∧ InvC I (i + 1) D (upd H4 D (.lst (acc' ++ [y]))) else InvC I (i + 1) D H3)
    (hd : ∀ acc D H L, Rel H ((D, raw (.lst acc)) :: L) → I n acc L → Q (.ref D) H) : LcJ g tt te vs σ Q J H := lc_s w I R h0 hG hs hd
theorem go_yes {Qb : Bool → Hp → Prop} (q : Qb true H) : tYes σ H Qb := q
theorem rep_at {k : Int} (R : Rel H L) (s : Sel (a, raw (.lst xs)) L L') (h1 : 0 ≤ k) (h2 : xs.length * k.toNat ≤ 100000) (h3 : k ≤ 100000) (q : ∀ b H', Rel H' ((b, raw (.lst (List.replicate k.toNat xs).flatten)) :: L) → Q (.ref b) H') : rRep (.ref a) (.int k) H Q :=
  ⟨a, k, xs, rfl, rfl, R.at s, by omega, by omega, by rw [PySem.sizeLine_eq]; omega, fun p hp => q p _ (R.new hp)⟩
theorem cat_at {b : Addr} {ys : List V} {L2' : List Cell} (R : Rel H L) (s : Sel (a, raw (.lst xs)) L L') (s2 : Sel (b, raw (.lst ys)) L L2') (h2 : xs.length + ys.length ≤ 100000) (q : ∀ c H', Rel H' ((c, raw (.lst (xs ++ ys))) :: L) → Q (.ref c) H') : rCat (.ref a) (.ref b) H Q :=
  ⟨a, b, xs, ys, rfl, rfl, R.at s, R.at s2, by rw [PySem.sizeLine_eq]; omega, fun p hp => q p _ (R.new hp)⟩
theorem gtup_at {n : Nat} {t : TGs} {Qs : L2.St → Hp → Prop} (R : Rel H L) (s : Sel (a, tupO xs) L L') (hn : xs.length = n) (q : t xs σ H Qs) : gTup K n t (.ref a) σ H Qs := ⟨a, xs, rfl, .inl (.inl (R.tup s)), hn, q⟩
theorem gunl_at {n : Nat} {t : TGs} {Qs : L2.St → Hp → Prop} (R : Rel H L) (l : Lst K a xs L) (hn : xs.length = n) (q : t xs σ H Qs) : gUnl K n t (.ref a) σ H Qs := ⟨a, xs, rfl, l.sq R, hn, q⟩
theorem go_gcons {t : TG} {u : TGs} {Qs : L2.St → Hp → Prop} {vs : List V} (q : t v σ H fun σ' H' => u vs σ' H' Qs) : gCons t u (v :: vs) σ H Qs := ⟨v, vs, rfl, q⟩
theorem go_gnil {Qs : L2.St → Hp → Prop} (q : Qs σ H) : gNil [] σ H Qs := ⟨rfl, q⟩
def BmAt (K : PySem.W.Frag) (T : String) (r : V → List V → Hp → VK → Prop) (tar : TA) (σ : L2.St) (Q : VK) (x : V) (H1 : Hp) : Prop := tyV K T x H1 ∧ tar σ H1 fun xs H2 => r x xs H2 Q
theorem go_bm {T : String} {r : V → List V → Hp → VK → Prop} (q : te σ H (BmAt K T r tar σ Q)) : tBM K T r te tar σ H Q := q
theorem bm_lst {r : V → List V → Hp → VK → Prop} (R : Rel H L) (l : Lst K a xs L) (q : tar σ H fun ys H2 => r (.ref a) ys H2 Q) : BmAt K "list" r tar σ Q (.ref a) H := ⟨.inl ⟨rfl, _, l.sq R⟩, q⟩
theorem app_at {v : V} (R : Rel H L) (s : Sel (a, raw (.lst xs)) L L') (hl : xs.length < 1000000) (q : ∀ H', Rel H' ((a, raw (.lst (xs ++ [v]))) :: L') → Q .non H') : rAppend (.ref a) [v] H Q := ⟨a, xs, v, rfl, rfl, R.at s, by rw [PySem.sizeLine_eq]; omega, q _ (R.put s)⟩
theorem in_at {x : V} (R : Rel H L) (l : Lst K a xs L) (h1 : flatV x = true) (h2 : xs.all flatV = true) (q : Q (.bl (inV x xs)) H) : rIn K false x (.ref a) H Q := ⟨a, xs, rfl, .inl (l.sq R), h1, h2, q⟩
theorem notin_at {x : V} (R : Rel H L) (l : Lst K a xs L) (h1 : flatV x = true) (h2 : xs.all flatV = true) (q : Q (.bl (!inV x xs)) H) : rIn K true x (.ref a) H Q := ⟨a, xs, rfl, .inl (l.sq R), h1, h2, q⟩
theorem index_at {y z : V} {j : Nat} (R : Rel H L) (l : Lst K a xs L) (h1 : flatV y = true) (h2 : xs.all flatV = true) (h3 : xs[j]? = some z) (h4 : eqV z y = true) (h5 : ∀ (m : Nat) (z' : V), m < j → xs[m]? = some z' → eqV z' y = false) (q : Q (.int (j : Nat)) H) : rIndex K (.ref a) [y] H Q :=
  ⟨a, xs, y, j, z, rfl, rfl, l.sq R, h1, h2, h3, h4, h5, q⟩
theorem eqD_at {x y : V} {d e : PyData} (h1 : Dp K H x d) (h2 : Dp K H y e) (h3 : SeqAt.shaped d = true) (h4 : SeqAt.shaped e = true) (q : Q (.bl (PyData.eqv d e)) H) : rEqD K x y H Q := ⟨d, e, h1, h2, h3, h4, q⟩
theorem neD_at {x y : V} {d e : PyData} (h1 : Dp K H x d) (h2 : Dp K H y e) (h3 : SeqAt.shaped d = true) (h4 : SeqAt.shaped e = true) (q : Q (.bl (!PyData.eqv d e)) H) : rNeD K x y H Q := ⟨d, e, h1, h2, h3, h4, q⟩
def SlAt (r : V → Option Int → Option Int → Hp → VK → Prop) (tl th : TO) (σ : L2.St) (Q : VK) (x : V) (H1 : Hp) : Prop := tl σ H1 fun l H2 => th σ H2 fun u H3 => r x l u H3 Q
theorem go_slice {r : V → Option Int → Option Int → Hp → VK → Prop} {tl th : TO} (q : te σ H (SlAt r tl th σ Q)) : tSl r te tl th σ H Q := q
theorem go_noPart {Qo : Option Int → Hp → Prop} (q : Qo none H) : tNoPart σ H Qo := q
def PartAt (Qo : Option Int → Hp → Prop) (x : V) (H1 : Hp) : Prop := ∃ i, x = .int i ∧ Qo (some i) H1
theorem go_part {Qo : Option Int → Hp → Prop} (q : te σ H (PartAt Qo)) : tPart te σ H Qo := q
theorem go_partAt {Qo : Option Int → Hp → Prop} {i : Int} (q : Qo (some i) H) : PartAt Qo (.int i) H := ⟨i, rfl, q⟩
theorem go_slAt {r : V → Option Int → Option Int → Hp → VK → Prop} {tl th : TO} (q : tl σ H fun l H2 => th σ H2 fun u H3 => r x l u H3 Q) : SlAt r tl th σ Q x H := q
theorem slL_at {lo hi : Option Int} (R : Rel H L) (l : Lst K a xs L) (q : ∀ b H', Rel H' ((b, raw (.lst (cutV xs lo hi))) :: L) → Q (.ref b) H') : rSlL K (.ref a) lo hi H Q := ⟨a, xs, rfl, l.sq R, fun p hp => q p _ (R.new hp)⟩
/-! comprehensions that keep some of the turns -/
def InvF (f : Nat → Option V) (L : List Cell) : Nat → List V → List Cell → Prop := fun i acc L' => acc = (List.range i).filterMap f ∧ L' = L
theorem flt_len (f : Nat → Option V) (i : Nat) : ((List.range i).filterMap f).length ≤ i := Nat.le_trans (List.length_filterMap_le _ _) (by simp)
theorem flt_put {f : Nat → Option V} {i : Nat} {b : Addr} {acc : List V} {y : V} {M M' : List Cell} (hf : f i = some y) (hi : i < 100000) (ha : acc = (List.range i).filterMap f) (R : Rel H M) (s : Sel (b, raw (.lst acc)) M M') (d : Drops M' L) :
    ∃ acc', H b = some (.lst acc') ∧ acc'.length < sizeLine ∧ InvC (InvF f L) (i + 1) b (upd H b (.lst (acc' ++ [y]))) := by
  subst ha
  refine lc_put (Rel.drops (A := [_]) d (R.sel s)) .here (flt_len f i) hi ⟨?_, rfl⟩
  rw [List.range_succ, List.filterMap_append]
  simp [hf]
theorem flt_not {f : Nat → Option V} {i : Nat} {b : Addr} {acc : List V} {M M' : List Cell} (hf : f i = none) (ha : acc = (List.range i).filterMap f) (R : Rel H M) (s : Sel (b, raw (.lst acc)) M M') (d : Drops M' L) : InvC (InvF f L) (i + 1) b H := by
  subst ha
  refine lc_not (Rel.drops (A := [_]) d (R.sel s)) .here (flt_len f i) ⟨?_, rfl⟩
  rw [List.range_succ, List.filterMap_append]
  simp [hf]
theorem lcF {J : It} {n : Nat} {G : List Cell → Prop} {Y : Nat → V → List Cell → Prop} (w : WkS J n G Y) {g : TG} {tt : TT} {te : TE} {vs : List Nat} (f : Nat → Option V) (R : Rel H L)
    (hG : ∀ acc D, G ((D, raw (.lst acc)) :: L))
    (hs : ∀ i x cs acc D H, i < n → acc = (List.range i).filterMap f → Y i x cs → Rel H (cs ++ (D, raw (.lst acc)) :: L) → g x (wipe σ vs) H fun σ2 H2 => wipe σ2 vs = wipe σ vs ∧ tt σ2 H2 fun b H3 =>
      if b = true then te σ2 H3 fun y H4 => ∃ acc', H4 D = some (.lst acc') ∧ acc'.length < sizeLine ∧ InvC (InvF f L) (i + 1) D (upd H4 D (.lst (acc' ++ [y]))) else InvC (InvF f L) (i + 1) D H3)
    (hd : ∀ D H, Rel H ((D, raw (.lst ((List.range n).filterMap f))) :: L) → Q (.ref D) H) : LcJ g tt te vs σ Q J H :=
  lcJ w (InvF f L) R ⟨rfl, rfl⟩ (fun i acc L' D _ h => by rw [h.2]; exact hG acc D) (fun i x cs acc D H L' hi _ h hy R' => by
    obtain ⟨h1, rfl⟩ := h
    exact hs i x cs acc D H hi h1 hy R') fun acc D H L' R' h => by
    obtain ⟨h1, rfl⟩ := h
    subst h1
    exact hd D H R'
theorem go_inv {I : L2.St → List Cell → Prop} (q : InvS I σ H) : InvS I σ H := q
/-! while -/
def InvLt (I : Nat → L2.St → List Cell → Prop) (m : Nat) : L2.St → Hp → Prop := fun σ H => ∃ m', m' < m ∧ ∃ L, Rel H L ∧ I m' σ L
theorem inv_lt {I : Nat → L2.St → List Cell → Prop} {m : Nat} {cs F M M' : List Cell} (m' : Nat) (hm : m' < m) (h : I m' σ (cs ++ F)) (R : Rel H M) (s : Sels cs M M') (d : Drops M' F) : InvLt I m σ H := ⟨m', hm, _, R.fin s d, h⟩
theorem go_invLt {I : Nat → L2.St → List Cell → Prop} {m : Nat} (q : InvLt I m σ H) : InvLt I m σ H := q
def WhlGo (tb : TS) (D : Ends) (I : Nat → L2.St → List Cell → Prop) (m : Nat) (σ : L2.St) (H1 : Hp) : Prop := tb { D with nx := InvLt I m, ct := InvLt I m, bk := D.nx } σ H1
theorem go_whl {tb : TS} {I : Nat → L2.St → List Cell → Prop} {m : Nat} (q : tb { D with nx := InvLt I m, ct := InvLt I m, bk := D.nx } σ H) : WhlGo tb D I m σ H := q
theorem while_s {c : TT} {tb : TS} (I : Nat → L2.St → List Cell → Prop) (m0 : Nat) (R : Rel H L) (h0 : I m0 σ L)
    (hs : ∀ m σ H L, Rel H L → I m σ L → c σ H fun b H1 => if b = true then ∃ N : L2.St → Hp → Prop, (∀ σ' H', N σ' H' → ∃ m', m' < m ∧ ∃ L, Rel H' L ∧ I m' σ' L) ∧ tb { D with nx := N, ct := N, bk := D.nx } σ H1 else D.nx σ H1) : tWhile c tb D σ H :=
  ⟨fun m σ H => ∃ L, Rel H L ∧ I m σ L, ⟨m0, L, R, h0⟩, fun m σ H ⟨L, R, h⟩ => hs m σ H L R h⟩
theorem whl_yes {tb : TS} {I : Nat → L2.St → List Cell → Prop} {m : Nat} (q : tb { D with nx := InvLt I m, ct := InvLt I m, bk := D.nx } σ H) :
    ∃ N : L2.St → Hp → Prop, (∀ σ' H', N σ' H' → ∃ m', m' < m ∧ ∃ L, Rel H' L ∧ I m' σ' L) ∧ tb { D with nx := N, ct := N, bk := D.nx } σ H := ⟨InvLt I m, fun _ _ h => h, q⟩
/-! dicts -/
def DGetAt (Q : VK) (x y : V) (H2 : Hp) : Prop := ∃ a v, x = .ref a ∧ DGet H2 a y (some v) ∧ Q v H2
theorem go_dget {td ty : TE} (q : td σ H fun x H1 => ty σ H1 (DGetAt Q x)) : tDGet td ty σ H Q := q
theorem dget_at {kvs : List (Key × V)} (k : Key) (R : Rel H L) (s : Sel (a, raw (.dK kvs)) L L') (hy : y = kV k) (hv : valV kvs k = some v) (q : Q v H) : DGetAt Q (.ref a) y H := ⟨a, v, rfl, .inl ⟨kvs, k, .inl (R.at s), hy, hv.symm⟩, q⟩
def DAugAt (tv : TE) (rd : V → V → Hp → VK → Prop) (D : Ends) (σ : L2.St) (x y : V) (H2 : Hp) : Prop := ∃ a v, x = .ref a ∧ DGet H2 a y (some v) ∧ tv σ H2 fun y2 H3 => rd v y2 H3 fun z H4 => ∃ H5, DPut H4 a y z H5 ∧ D.nx σ H5
theorem go_daug {td ty tv : TE} {rd : V → V → Hp → VK → Prop} (q : td σ H fun x H1 => ty σ H1 (DAugAt tv rd D σ x)) : sDAug td ty tv rd D σ H := q
theorem daug_at {kvs ks : List (Key × V)} {m n : Int} (k : Key) (R : Rel H L) (s : Sel (a, raw (.dK kvs)) L L') (hy : y = kV k) (hv : valV kvs k = some (.int m)) (hl : kvs.length < 1000000) (hp : putK kvs k (.int (m + n)) = ks) (q : ∀ H', Rel H' ((a, raw (.dK ks)) :: L') → D.nx σ H') :
    DAugAt (tC (.int n)) rAdd D σ (.ref a) y H :=
  ⟨a, _, rfl, .inl ⟨kvs, k, .inl (R.at s), hy, hv.symm⟩, m, n, rfl, rfl, _, .inl ⟨kvs, k, R.at s, hy, by rw [PySem.sizeLine_eq]; omega, rfl⟩, q _ (by rw [hp]; exact R.put s)⟩
def DPutAt (D : Ends) (σ : L2.St) (v x y : V) (H3 : Hp) : Prop := ∃ a H4, x = .ref a ∧ DPut H3 a y v H4 ∧ D.nx σ H4
theorem go_dput {td ty tv : TE} (q : tv σ H fun v H1 => td σ H1 fun x H2 => ty σ H2 (DPutAt D σ v x)) : sDPut td ty tv D σ H := q
theorem dput_at {kvs ks : List (Key × V)} (k : Key) (R : Rel H L) (s : Sel (a, raw (.dK kvs)) L L') (hy : y = kV k) (hl : kvs.length < 1000000) (hp : putK kvs k v = ks) (q : ∀ H', Rel H' ((a, raw (.dK ks)) :: L') → D.nx σ H') : DPutAt D σ v (.ref a) y H :=
  ⟨a, _, rfl, .inl ⟨kvs, k, R.at s, hy, by rw [PySem.sizeLine_eq]; omega, rfl⟩, q _ (by rw [hp]; exact R.put s)⟩
theorem go_dnewK (R : Rel H L) (q : ∀ b H', Rel H' ((b, raw (.dK [])) :: L) → Q (.ref b) H') : tDNewK σ H Q := fun p hp => q p _ (R.new hp)
def DispAt (Q : VK) (p : Addr) (ps : List (V × V)) (H2 : Hp) : Prop := H2 p = some (.dK []) ∧ ∃ kvs : List (Key × V), ps = kvs.map (fun kv => (kV kv.1, kv.2)) ∧ kvs.length ≤ 15 ∧ Q (.ref p) (upd H2 p (.dK (mergeK [] kvs)))
theorem go_disp {trs : List (TE × TE)} (R : Rel H L) (q : ∀ p H1, Rel H1 ((p, raw (.dK [])) :: L) → tPairs trs σ H1 (DispAt Q p)) : tDisp trs σ H Q := fun p hp => q p _ (R.new hp)
theorem go_pnil {Qp : List (V × V) → Hp → Prop} (q : Qp [] H) : tPairs [] σ H Qp := q
theorem go_pcons {Qp : List (V × V) → Hp → Prop} {tk tv : TE} {r : List (TE × TE)} (q : tk σ H fun x H1 => tv σ H1 fun y H2 => tPairs r σ H2 fun ps H3 => Qp ((x, y) :: ps) H3) : tPairs ((tk, tv) :: r) σ H Qp := q
theorem disp_at {p : Addr} {ps : List (V × V)} {ks : List (Key × V)} (kvs : List (Key × V)) (R : Rel H L) (s : Sel (p, raw (.dK [])) L L') (h : ps = kvs.map (fun kv => (kV kv.1, kv.2))) (hl : kvs.length ≤ 15) (hm : mergeK [] kvs = ks) (q : ∀ H', Rel H' ((p, raw (.dK ks)) :: L') → Q (.ref p) H') : DispAt Q p ps H :=
  ⟨R.at s, kvs, h, hl, q _ (by rw [hm]; exact R.put s)⟩
end
end Wn
namespace Wn
open PySem L2

/-! ### results of a mirror -/
inductive Res (ε α : Type) where
  | bad
  | ok (a : α)
  | ex (e : ε)
namespace Res
variable {ε δ α β : Type}
def bind (m : Res Empty α) (f : α → Res ε β) : Res ε β := match m with
  | .bad => .bad
  | .ok a => f a
  | .ex e => nomatch e
def elim (m : Res δ α) (f : α → Res ε β) (g : δ → Res ε β) : Res ε β := match m with
  | .bad => .bad
  | .ok a => f a
  | .ex e => g e
def then_ (m : Res ε α) (f : α → Res ε β) : Res ε β := match m with
  | .bad => .bad
  | .ok a => f a
  | .ex e => .ex e
@[simp] theorem bind_ok (a : α) (f : α → Res ε β) : bind (.ok a) f = f a := rfl
@[simp] theorem bind_bad (f : α → Res ε β) : bind .bad f = .bad := rfl
@[simp] theorem then_ok (a : α) (f : α → Res ε β) : then_ (.ok a) f = f a := rfl
@[simp] theorem then_bad (f : α → Res ε β) : then_ .bad f = .bad := rfl
@[simp] theorem then_ex (e : ε) (f : α → Res ε β) : then_ (.ex e) f = .ex e := rfl
@[simp] theorem elim_ok (a : α) (f : α → Res ε β) (g : δ → Res ε β) : elim (.ok a) f g = f a := rfl
@[simp] theorem elim_ex (e : δ) (f : α → Res ε β) (g : δ → Res ε β) : elim (.ex e) f g = g e := rfl
def guard (p : Prop) [Decidable p] (a : α) : Res Empty α := if p then .ok a else .bad
def ofO (o : Option α) : Res Empty α := match o with
  | none => .bad
  | some a => .ok a
end Res
def Out {ε α : Type} (r : Res ε α) (Φ : α → Prop) (Ψ : ε → Prop) : Prop := match r with
  | .bad => False
  | .ok a => Φ a
  | .ex e => Ψ e
section
variable {ε δ α β : Type} {Φ : β → Prop} {Ψ : ε → Prop}
theorem Out.b {m : Res Empty α} {f : α → Res ε β} (h : Out (m.bind f) Φ Ψ) : ∃ a, m = .ok a ∧ Out (f a) Φ Ψ := by
  cases m with
  | bad => exact h.elim
  | ok a => exact ⟨a, rfl, h⟩
  | ex e => cases e
theorem Out.t {m : Res ε α} {f : α → Res ε β} (h : Out (m.then_ f) Φ Ψ) : Out m (fun a => Out (f a) Φ Ψ) Ψ := by
  cases m <;> exact h
theorem Out.g {p : Prop} [Decidable p] {a : α} {f : α → Res ε β} (h : Out ((Res.guard p a).bind f) Φ Ψ) : p ∧ Out (f a) Φ Ψ := by
  unfold Res.guard at h
  by_cases c : p
  · rw [if_pos c] at h; exact ⟨c, h⟩
  · rw [if_neg c] at h; exact h.elim
theorem Out.o {o : Option α} {f : α → Res ε β} (h : Out ((Res.ofO o).bind f) Φ Ψ) : ∃ a, o = some a ∧ Out (f a) Φ Ψ := by
  cases o with
  | none => exact h.elim
  | some a => exact ⟨a, rfl, h⟩
theorem Out.mono {r : Res ε β} {Φ' : β → Prop} {Ψ' : ε → Prop} (h : Out r Φ Ψ) (a : ∀ x, Φ x → Φ' x) (b : ∀ e, Ψ e → Ψ' e) : Out r Φ' Ψ' := by
  cases r with
  | bad => exact h
  | ok x => exact a x h
  | ex e => exact b e h
theorem Out.use {m : Res Empty α} {f : α → Res ε β} {Φ' : α → Prop} {Ψ' : Empty → Prop} (h : Out (m.bind f) Φ Ψ) (k : ∀ a, Out (f a) Φ Ψ → Φ' a) : Out m Φ' Ψ' := by
  cases m with
  | bad => exact h
  | ok a => exact k a h
  | ex e => cases e
theorem Out.useX {m : Res δ α} {f : α → Res ε β} {g : δ → Res ε β} {Φ' : α → Prop} {Ψ' : δ → Prop} (h : Out (m.elim f g) Φ Ψ) (k : ∀ a, Out (f a) Φ Ψ → Φ' a) (x : ∀ e, Out (g e) Φ Ψ → Ψ' e) : Out m Φ' Ψ' := by
  cases m with
  | bad => exact h
  | ok a => exact k a h
  | ex e => exact x e h
end

/-! ### things that own nothing -/
class Fr (α : Type) where
  is : Hp → α → V → Prop
  pers : ∀ {H H' : Hp} {x : α} {v : V}, is H x v → Pers H H' → is H' x v
class Sc (α : Type) [Fr α] where
  val : α → V
  sc : ∀ {H : Hp} {x : α} {v : V}, Fr.is H x v ↔ v = val x
instance : Fr Int := ⟨fun _ x v => v = .int x, fun h _ => h⟩
instance : Fr Bool := ⟨fun _ x v => v = .bl x, fun h _ => h⟩
instance : Fr Str := ⟨fun _ x v => v = .str x, fun h _ => h⟩
instance : Fr Unit := ⟨fun _ _ v => v = .non, fun h _ => h⟩
instance : Sc Int := ⟨.int, Iff.rfl⟩
instance : Sc Bool := ⟨.bl, Iff.rfl⟩
instance : Sc Str := ⟨.str, Iff.rfl⟩
instance : Sc Unit := ⟨fun _ => .non, Iff.rfl⟩
instance {α : Type} [Fr α] : Fr (Option α) := ⟨fun H o v => match o with
  | none => v = .non
  | some x => Fr.is H x v, fun {H H' x v} h p => by
    cases x with
    | none => exact h
    | some x => exact Fr.pers (x := x) h p⟩
instance {α : Type} [Fr α] [Sc α] : Sc (Option α) := ⟨fun o => match o with
  | none => .non
  | some x => Sc.val x, fun {H x v} => by
    cases x with
    | none => exact Iff.rfl
    | some x => exact Sc.sc (x := x)⟩
structure T2 (α β : Type) where
  a : α
  b : β
  deriving DecidableEq
structure T3 (α β γ : Type) where
  a : α
  b : β
  c : γ
  deriving DecidableEq
structure T4 (α β γ δ : Type) where
  a : α
  b : β
  c : γ
  d : δ
  deriving DecidableEq
structure T5 (α β γ δ ε : Type) where
  a : α
  b : β
  c : γ
  d : δ
  e : ε
  deriving DecidableEq
section
variable {α β γ δ ε : Type} [Fr α] [Fr β] [Fr γ] [Fr δ] [Fr ε]
instance : Fr (T2 α β) := ⟨fun H x v => ∃ t va vb, v = .ref t ∧ H t = some (.tup [va, vb]) ∧ Fr.is H x.a va ∧ Fr.is H x.b vb,
  fun h p => by obtain ⟨t, va, vb, h1, h2, h3, h4⟩ := h; exact ⟨t, va, vb, h1, p.tup h2, Fr.pers h3 p, Fr.pers h4 p⟩⟩
instance : Fr (T3 α β γ) := ⟨fun H x v => ∃ t va vb vc, v = .ref t ∧ H t = some (.tup [va, vb, vc]) ∧ Fr.is H x.a va ∧ Fr.is H x.b vb ∧ Fr.is H x.c vc,
  fun h p => by obtain ⟨t, va, vb, vc, h1, h2, h3, h4, h5⟩ := h; exact ⟨t, va, vb, vc, h1, p.tup h2, Fr.pers h3 p, Fr.pers h4 p, Fr.pers h5 p⟩⟩
instance : Fr (T4 α β γ δ) := ⟨fun H x v => ∃ t va vb vc vd, v = .ref t ∧ H t = some (.tup [va, vb, vc, vd]) ∧ Fr.is H x.a va ∧ Fr.is H x.b vb ∧ Fr.is H x.c vc ∧ Fr.is H x.d vd,
  fun h p => by obtain ⟨t, va, vb, vc, vd, h1, h2, h3, h4, h5, h6⟩ := h; exact ⟨t, va, vb, vc, vd, h1, p.tup h2, Fr.pers h3 p, Fr.pers h4 p, Fr.pers h5 p, Fr.pers h6 p⟩⟩
instance : Fr (T5 α β γ δ ε) := ⟨fun H x v => ∃ t va vb vc vd ve, v = .ref t ∧ H t = some (.tup [va, vb, vc, vd, ve]) ∧ Fr.is H x.a va ∧ Fr.is H x.b vb ∧ Fr.is H x.c vc ∧ Fr.is H x.d vd ∧ Fr.is H x.e ve,
  fun h p => by obtain ⟨t, va, vb, vc, vd, ve, h1, h2, h3, h4, h5, h6, h7⟩ := h; exact ⟨t, va, vb, vc, vd, ve, h1, p.tup h2, Fr.pers h3 p, Fr.pers h4 p, Fr.pers h5 p, Fr.pers h6 p, Fr.pers h7 p⟩⟩
end
/-- a cell that owns nothing -/
def factO (P : Hp → Prop) (p : ∀ {H H' : Hp}, P H → Pers H H' → P H') : BO where
  sat H a fp := P H ∧ fp = []
  loc H H' a fp h k q := ⟨p h.1 q, h.2⟩
  own H a fp h b hb := by rw [h.2] at hb; simp at hb
def frO {α : Type} [Fr α] (x : α) (v : V) : BO := factO (fun H => Fr.is H x v) fun h p => Fr.pers h p
abbrev CF {α : Type} [Fr α] (x : α) (v : V) : Cell := (0, frO x v)
theorem Rel.addF {P : Hp → Prop} {p : ∀ {H H' : Hp}, P H → Pers H H' → P H'} {H : Hp} {L : List Cell} {a : Addr} (R : Rel H L) (h : P H) : Rel H ((a, factO P p) :: L) := by
  obtain ⟨fps, r, nd⟩ := R
  exact ⟨[] :: fps, .cons ⟨h, rfl⟩ r, by simpa using nd⟩
theorem Rel.atF {P : Hp → Prop} {p : ∀ {H H' : Hp}, P H → Pers H H' → P H'} {H : Hp} {L L' : List Cell} {a : Addr} (R : Rel H L) (s : Sel (a, factO P p) L L') : P H := by
  obtain ⟨fps, r, nd⟩ := R.sel s
  cases r with | cons r t => exact r.1
theorem Rel.addC {α : Type} [Fr α] {x : α} {v : V} {H : Hp} {L : List Cell} (R : Rel H L) (h : Fr.is H x v) : Rel H (CF x v :: L) := R.addF h
theorem Rel.atC {α : Type} [Fr α] {x : α} {v : V} {H : Hp} {L L' : List Cell} (R : Rel H L) (s : Sel (CF x v) L L') : Fr.is H x v := R.atF s
/-! ### lists of such -/
abbrev Frs {α : Type} [Fr α] (H : Hp) (xs : List α) (vs : List V) : Prop := Paired (Fr.is H) xs vs
section
variable {α : Type} [Fr α] {H H' : Hp} {xs ys : List α} {vs ws : List V}
theorem Frs.pers : ∀ {xs : List α} {vs : List V}, Frs H xs vs → Pers H H' → Frs H' xs vs
  | _, _, .nil, _ => .nil
  | _, _, .cons a t, p => .cons (Fr.pers a p) (Frs.pers t p)
theorem Frs.app (a : Frs H xs vs) (b : Frs H ys ws) : Frs H (xs ++ ys) (vs ++ ws) := paired_app a b
theorem Frs.get : ∀ {xs : List α} {vs : List V} {i : Nat} {x : α}, Frs H xs vs → xs[i]? = some x → ∃ v, vs[i]? = some v ∧ Fr.is H x v
  | _, _, _, _, .nil, e => by simp at e
  | _, _, 0, _, .cons r _, e => by simp at e; subst e; exact ⟨_, rfl, r⟩
  | _, _, i + 1, x, .cons _ t, e => by
    obtain ⟨u, h1, h2⟩ := Frs.get (i := i) (x := x) t (by simpa using e)
    exact ⟨u, by simpa using h1, h2⟩
theorem Frs.get' {i : Nat} {v : V} (h : Frs H xs vs) (e : vs[i]? = some v) : ∃ x, xs[i]? = some x ∧ Fr.is H x v := by
  have hl := Paired.length h
  have hi : i < vs.length := (List.getElem?_eq_some_iff.mp e).1
  obtain ⟨w, e2, r⟩ := h.get (i := i) (x := xs[i]'(by omega)) (List.getElem?_eq_getElem (by omega))
  rw [e] at e2; cases e2
  exact ⟨_, List.getElem?_eq_getElem (by omega), r⟩
theorem Frs.set {x : α} {v : V} (r : Fr.is H x v) : ∀ {xs : List α} {vs : List V} (i : Nat), Frs H xs vs → Frs H (xs.set i x) (vs.set i v)
  | _, _, _, .nil => .nil
  | _, _, 0, .cons _ t => .cons r t
  | _, _, i + 1, .cons q t => .cons q (Frs.set r i t)
theorem Frs.take : ∀ {xs : List α} {vs : List V} (n : Nat), Frs H xs vs → Frs H (xs.take n) (vs.take n)
  | _, _, 0, _ => .nil
  | _, _, _ + 1, .nil => .nil
  | _, _, n + 1, .cons r t => .cons r (Frs.take n t)
theorem Frs.drop : ∀ {xs : List α} {vs : List V} (n : Nat), Frs H xs vs → Frs H (xs.drop n) (vs.drop n)
  | _, _, 0, r => r
  | _, _, _ + 1, .nil => .nil
  | _, _, n + 1, .cons _ t => Frs.drop n t
theorem Frs.sc [Sc α] : ∀ {xs : List α} {vs : List V}, Frs H xs vs → vs = xs.map Sc.val
  | _, _, .nil => rfl
  | _, _, .cons r t => by rw [List.map_cons, ← Frs.sc t, Sc.sc.mp r]
theorem Frs.ofSc [Sc α] : ∀ (xs : List α), Frs H xs (xs.map Sc.val)
  | [] => .nil
  | _ :: xs => .cons (Sc.sc.mpr rfl) (Frs.ofSc xs)
theorem Frs.rep {x : α} {v : V} (r : Fr.is H x v) : ∀ n, Frs H (List.replicate n x) (List.replicate n v)
  | 0 => .nil
  | n + 1 => .cons r (Frs.rep r n)
end
def lsF {α : Type} [Fr α] (xs : List α) : BO where
  sat H a fp := ∃ vs, H a = some (.lst vs) ∧ Frs H xs vs ∧ fp = [a]
  loc H H' a fp h k p := by
    obtain ⟨vs, h1, h2, rfl⟩ := h
    exact ⟨vs, (k a (by simp)).trans h1, h2.pers p, rfl⟩
  own H a fp h b hb := by
    obtain ⟨vs, h1, h2, rfl⟩ := h
    simp at hb; subst hb; exact ⟨_, h1⟩
/-- where a list of xs can be read -/
def HasL (K : PySem.W.Frag) {α : Type} [Fr α] (a : Addr) (xs : List α) (L : List Cell) : Prop := ∀ H, Rel H L → ∃ vs, SqL K H a vs ∧ Frs H xs vs
/-- a cell that can be read so -/
def RdL (K : PySem.W.Frag) {α : Type} [Fr α] (b : BO) (xs : List α) : Prop := ∀ H a fp, b.sat H a fp → ∃ vs, SqL K H a vs ∧ Frs H xs vs
/-- where a list of xs can be changed; mk: the cells then -/
def MutL {α : Type} [Fr α] (a : Addr) (xs : List α) (L : List Cell) (mk : List α → List Cell) : Prop := ∀ H, Rel H L → ∃ vs, H a = some (.lst vs) ∧ Frs H xs vs ∧ ∀ ys ws, Frs H ys ws → Rel (upd H a (.lst ws)) (mk ys)
section
variable {K : PySem.W.Frag} {α : Type} [Fr α] {H : Hp} {xs ys : List α} {vs ws : List V} {a : Addr} {L L' : List Cell} {b : BO}
theorem RdL.ls : RdL K (lsF xs) xs := fun H a fp h => by
  obtain ⟨vs, h1, h2, _⟩ := h
  exact ⟨vs, .inl (.inl h1), h2⟩
theorem RdL.seq {ns : List Int} : RdL K (seqO K (ns.map V.int)) ns := fun H a fp h => by
  rcases h with ⟨h, _⟩ | ⟨_, h, _⟩
  · exact ⟨_, .inl (.inl h), Frs.ofSc ns⟩
  · exact ⟨_, h, Frs.ofSc ns⟩
theorem HasL.of (s : Sel (a, b) L L') (r : RdL K b xs) : HasL K a xs L := fun H R => by
  obtain ⟨fps, q, nd⟩ := R.sel s
  cases q with | cons q t => exact r H a _ q
theorem Rel.rawLs {L : List Cell} (R : Rel H ((a, raw (.lst vs)) :: L)) (f : Frs H xs vs) : Rel H ((a, lsF xs) :: L) := by
  obtain ⟨fps, q, nd⟩ := R
  cases q with
  | cons q t => exact ⟨_, .cons ⟨vs, q.1, f, q.2⟩ t, nd⟩
theorem persLst {p : Addr} {ws' : List V} (h : H p = some (.lst vs)) : Pers H (upd H p (.lst ws')) := Pers.upd h rfl
theorem MutL.of (s : Sel (a, lsF xs) L L') : MutL a xs L (fun ys => (a, lsF ys) :: L') := fun H R => by
  have R1 := R.sel s
  obtain ⟨fps, q, nd⟩ := id R1
  cases q with
  | cons q t =>
    obtain ⟨vs, h1, h2, h3⟩ := q
    subst h3
    refine ⟨vs, h1, h2, fun ys ws f => ?_⟩
    have R2 : Rel H ((a, raw (.lst vs)) :: L') := ⟨_, .cons ⟨h1, rfl⟩ t, nd⟩
    exact (R2.put0 rfl).rawLs (f.pers (persLst h1))
theorem MutL.has {mk : List α → List Cell} (m : MutL a xs L mk) : HasL K a xs L := fun H R => by
  obtain ⟨vs, h1, h2, _⟩ := m H R
  exact ⟨vs, .inl (.inl h1), h2⟩
end
theorem selMid {c : Cell} : ∀ {A B : List Cell}, Sel c (A ++ c :: B) (A ++ B)
  | [], _ => .here
  | _ :: _, _ => .there selMid
/-! ### an object: cells at known places -/
def objO (cs : List Cell) : BO where
  sat H a fp := ∃ fps, Paired (Sat H) cs fps ∧ fp = fps.flatten
  loc H H' a fp h k p := by
    obtain ⟨fps, r, rfl⟩ := h
    exact ⟨fps, all_loc p r k, rfl⟩
  own H a fp h b hb := by
    obtain ⟨fps, r, rfl⟩ := h
    exact all_own r b hb
section
variable {K : PySem.W.Frag} {H : Hp} {a p : Addr} {L L' M A B : List Cell} {cs : List Cell}
theorem obj_open (R : Rel H L) (s : Sel (p, objO cs) L L') : Rel H (cs ++ L') := by
  obtain ⟨fps, r, nd⟩ := R.sel s
  cases r with
  | cons r t =>
    obtain ⟨gs, r, rfl⟩ := r
    exact ⟨gs ++ _, paired_app r t, by simpa using nd⟩
theorem obj_close (R : Rel H (cs ++ L)) : Rel H ((p, objO cs) :: L) := by
  obtain ⟨fps, r, nd⟩ := R
  obtain ⟨c, d, rfl, h1, h2⟩ := paired_split r
  exact ⟨c.flatten :: d, .cons ⟨c, h1, rfl⟩ h2, by simpa using nd⟩
theorem HasL.obj {α : Type} [Fr α] {xs : List α} (s : Sel (p, objO cs) L L') (t : Sel (a, lsF xs) cs M) : HasL K a xs L := fun H R => (HasL.of (t.app L') RdL.ls) H (obj_open R s)
theorem MutL.obj {α : Type} [Fr α] {xs : List α} {mk : List α → List Cell} (s : Sel (p, objO (A ++ (a, lsF xs) :: B)) L L') (hm : ∀ ys, mk ys = A ++ (a, lsF ys) :: B) : MutL a xs L (fun ys => (p, objO (mk ys)) :: L') := fun H R => by
  have R1 := obj_open R s
  rw [List.append_assoc] at R1
  obtain ⟨vs, h1, h2, h3⟩ := MutL.of (xs := xs) (a := a) (selMid (A := A) (B := B ++ L')) H R1
  refine ⟨vs, h1, h2, fun ys ws f => ?_⟩
  have R2 := h3 ys ws f
  refine obj_close ?_
  rw [hm ys, List.append_assoc]
  exact Rel.toFront R2
theorem obj_raw {o : HO} (R : Rel H L) (s : Sel (p, objO cs) L L') (t : Sel (a, raw o) cs M) : H a = some o := (obj_open R s).at (t.app L')
theorem obj_put {o o' : HO} (R : Rel H L) (s : Sel (p, objO ((a, raw o) :: cs)) L L') (n : isPers o = false) : Rel (upd H a o') ((p, objO ((a, raw o') :: cs)) :: L') := by
  have R1 := obj_open R s
  exact obj_close (Rel.put0 R1 n)
end
end Wn
namespace Wn
open PySem L2

/-! ### partial operations of a mirror -/
instance {i j : Int} : Decidable (CMul i j) := by unfold CMul; infer_instance
instance {i j : Int} : Decidable (CDiv i j) := by unfold CDiv; infer_instance
instance {i j : Int} : Decidable (CPow i j) := by unfold CPow; infer_instance
def mulI (i j : Int) : Res Empty Int := Res.guard (CMul i j) (i * j)
def divI (i j : Int) : Res Empty Int := Res.guard (CDiv i j) (i / j)
def modI (i j : Int) : Res Empty Int := Res.guard (0 < j) (i % j)
def powI (i j : Int) : Res Empty Int := Res.guard (CPow i j) (i ^ j.toNat)
def shlI (i j : Int) : Res Empty Int := Res.guard (CPow i j) (i * 2 ^ j.toNat)
def shrI (i j : Int) : Res Empty Int := Res.guard (0 ≤ j) (i / 2 ^ j.toNat)
def few : Nat := 1000000
theorem few_line : few + few ≤ sizeLine := by rw [PySem.sizeLine_eq]; decide
def ixL {α : Type} (xs : List α) (i : Int) : Res Empty α := .ofO (atI xs i)
def setL {α : Type} (xs : List α) (i : Int) (x : α) : Res Empty (List α) := .ofO ((ixN xs.length i).map fun j => xs.set j x)
def appL {α : Type} (xs : List α) (x : α) : Res Empty (List α) := Res.guard (xs.length < few) (xs ++ [x])
def catL {α : Type} (xs ys : List α) : Res Empty (List α) := Res.guard (xs.length + ys.length ≤ few) (xs ++ ys)
def repL {α : Type} (xs : List α) (k : Int) : Res Empty (List α) := Res.guard (-(2 ^ 63) ≤ k ∧ k < 2 ^ 63 ∧ xs.length * k.toNat ≤ few) (List.replicate k.toNat xs).flatten
def cutL {α : Type} (xs : List α) (lo hi : Option Int) : List α := (xs.drop (HT.sIx xs.length 0 lo)).take (HT.sIx xs.length xs.length hi - HT.sIx xs.length 0 lo)
def andR {ε : Type} (c : Bool) (m : Res ε Bool) : Res ε Bool := match c with
  | true => m
  | false => .ok false
def orR {ε : Type} (c : Bool) (m : Res ε Bool) : Res ε Bool := match c with
  | true => .ok true
  | false => m
@[simp] theorem andR_ok {ε : Type} (c d : Bool) : andR c (.ok d : Res ε Bool) = .ok (c && d) := by cases c <;> rfl
@[simp] theorem orR_ok {ε : Type} (c d : Bool) : orR c (.ok d : Res ε Bool) = .ok (c || d) := by cases c <;> rfl

section
variable {K : PySem.W.Frag} {σ : L2.St} {H : Hp} {Q : VK} {D : Ends} {te ta tb : TE} {tt tu : TT} {t u : TS} {tar : TA} {L L' M F : List Cell} {a p : Addr} {b : BO}
variable {ε δ α β γ : Type} {Φ : β → Prop} {Ψ : ε → Prop}
/-! ### numbers -/
theorem st_mul {i j : Int} {f : Int → Res ε β} (h : Out ((mulI i j).bind f) Φ Ψ) (q : ∀ x, Out (f x) Φ Ψ → Q (.int x) H) : rMulI (.int i) (.int j) H Q := by
  obtain ⟨c, h⟩ := Out.g h; exact go_I c (q _ h)
theorem st_div {i j : Int} {f : Int → Res ε β} (h : Out ((divI i j).bind f) Φ Ψ) (q : ∀ x, Out (f x) Φ Ψ → Q (.int x) H) : rDivI (.int i) (.int j) H Q := by
  obtain ⟨c, h⟩ := Out.g h; exact go_I c (q _ h)
theorem st_mod {i j : Int} {f : Int → Res ε β} (h : Out ((modI i j).bind f) Φ Ψ) (q : ∀ x, Out (f x) Φ Ψ → Q (.int x) H) : rModI (.int i) (.int j) H Q := by
  obtain ⟨c, h⟩ := Out.g h; exact go_I c (q _ h)
theorem st_pow {i j : Int} {f : Int → Res ε β} (h : Out ((powI i j).bind f) Φ Ψ) (q : ∀ x, Out (f x) Φ Ψ → Q (.int x) H) : rPowI (.int i) (.int j) H Q := by
  obtain ⟨c, h⟩ := Out.g h; exact go_I c (q _ h)
theorem st_shl {i j : Int} {f : Int → Res ε β} (h : Out ((shlI i j).bind f) Φ Ψ) (q : ∀ x, Out (f x) Φ Ψ → Q (.int x) H) : rShlI (.int i) (.int j) H Q := by
  obtain ⟨c, h⟩ := Out.g h; exact go_I c (q _ h)
theorem st_shr {i j : Int} {f : Int → Res ε β} (h : Out ((shrI i j).bind f) Φ Ψ) (q : ∀ x, Out (f x) Φ Ψ → Q (.int x) H) : rShrI (.int i) (.int j) H Q := by
  obtain ⟨c, h⟩ := Out.g h; exact go_I c (q _ h)
/-! ### comparisons -/
theorem st_eqI {i j : Int} (q : Q (.bl (decide (i = j))) H) : rEq (.int i) (.int j) H Q := by
  refine go_eq rfl ?_
  have e : decide (V.int i = V.int j) = decide (i = j) := decide_eq_decide.mpr ⟨V.int.inj, congrArg V.int⟩
  rw [e]; exact q
theorem st_neI {i j : Int} (q : Q (.bl (!decide (i = j))) H) : rNe (.int i) (.int j) H Q := by
  refine go_ne rfl ?_
  have e : decide (V.int i = V.int j) = decide (i = j) := decide_eq_decide.mpr ⟨V.int.inj, congrArg V.int⟩
  rw [e]; exact q
theorem st_eqS {i j : Str} (q : Q (.bl (decide (i = j))) H) : rEq (.str i) (.str j) H Q := by
  refine go_eq rfl ?_
  have e : decide (V.str i = V.str j) = decide (i = j) := decide_eq_decide.mpr ⟨V.str.inj, congrArg V.str⟩
  rw [e]; exact q
theorem st_neS {i j : Str} (q : Q (.bl (!decide (i = j))) H) : rNe (.str i) (.str j) H Q := by
  refine go_ne rfl ?_
  have e : decide (V.str i = V.str j) = decide (i = j) := decide_eq_decide.mpr ⟨V.str.inj, congrArg V.str⟩
  rw [e]; exact q
theorem st_eqB {i j : Bool} (q : Q (.bl (decide (i = j))) H) : rEq (.bl i) (.bl j) H Q := by
  refine go_eq rfl ?_
  have e : decide (V.bl i = V.bl j) = decide (i = j) := decide_eq_decide.mpr ⟨V.bl.inj, congrArg V.bl⟩
  rw [e]; exact q
theorem optI_eq {o : Option Int} {j : Int} : decide (Sc.val o = V.int j) = decide (o = some j) := by
  refine decide_eq_decide.mpr ⟨fun h => ?_, fun h => by rw [h]; rfl⟩
  cases o with
  | none => cases (show V.non = V.int j from h)
  | some i => rw [V.int.inj (show V.int i = V.int j from h)]
theorem st_eqO {o : Option Int} {j : Int} (q : Q (.bl (decide (o = some j))) H) : rEq (Sc.val o) (.int j) H Q := by
  refine go_eq (by cases o <;> rfl) ?_
  rw [optI_eq]; exact q
theorem st_neO {o : Option Int} {j : Int} (q : Q (.bl (!decide (o = some j))) H) : rNe (Sc.val o) (.int j) H Q := by
  refine go_ne (by cases o <;> rfl) ?_
  rw [optI_eq]; exact q
theorem st_neIO {o : Option Int} {j : Int} (q : Q (.bl (!decide (o = some j))) H) : rNe (.int j) (Sc.val o) H Q := by
  refine go_ne (by cases o <;> rfl) ?_
  have e : decide (V.int j = Sc.val o) = decide (o = some j) := by rw [← optI_eq]; exact decide_eq_decide.mpr ⟨Eq.symm, Eq.symm⟩
  rw [e]; exact q
theorem st_isN [Fr α] {o : Option α} {v : V} (R : Rel H L) (s : Sel (CF o v) L L') (nn : ∀ x : α, ¬ Fr.is H x .non) (q : Q (.bl o.isNone) H) : rIsN v .non H Q := by
  refine go_rIsN ?_
  have h := R.atC s
  have e : decide (v = V.non) = o.isNone := by
    cases o with
    | none => exact decide_eq_true h
    | some x => exact decide_eq_false fun z => nn x (by rw [← z]; exact h)
  rw [e]; exact q
class Nn (α : Type) [Fr α] [Sc α] : Prop where
  nn : ∀ x : α, Sc.val x ≠ V.non
instance : Nn Int := ⟨fun _ z => V.noConfusion z⟩
instance : Nn Bool := ⟨fun _ z => V.noConfusion z⟩
instance : Nn Str := ⟨fun _ z => V.noConfusion z⟩
theorem st_isNO [Fr α] [Sc α] [Nn α] {o : Option α} (q : Q (.bl o.isNone) H) : rIsN (Sc.val o) .non H Q := by
  refine go_rIsN ?_
  cases o with
  | none => exact q
  | some x => rw [show decide (Sc.val (some x) = V.non) = false from decide_eq_false (Nn.nn x)]; exact q
theorem st_notNO [Fr α] [Sc α] [Nn α] {o : Option α} (q : Q (.bl o.isSome) H) : rNotN (Sc.val o) .non H Q := by
  refine go_rNotN ?_
  cases o with
  | none => exact q
  | some x => rw [show decide (Sc.val (some x) = V.non) = false from decide_eq_false (Nn.nn x)]; exact q
/-! ### truth -/
theorem st_ite {c : Bool} {A B : Prop} {m1 m2 : Res ε β} (h : Out (cond c m1 m2) Φ Ψ) (h1 : c = true → Out m1 Φ Ψ → A) (h2 : c = false → Out m2 Φ Ψ → B) : if c = true then A else B := by
  cases c with
  | true => exact h1 rfl h
  | false => exact h2 rfl h
/-- both ways go on at one place -/
theorem st_join {c : Bool} {m1 m2 : Res ε α} {f : α → Res ε β} (P : α → L2.St → List Cell → Prop) (h : Out ((cond c m1 m2).then_ f) Φ Ψ)
    (k : ∀ s σ' H' L', Rel H' L' → P s σ' L' → Out (f s) Φ Ψ → D.nx σ' H')
    (h1 : (∀ s σ' H' L', Rel H' L' → P s σ' L' → Out (f s) Φ Ψ → D.nx σ' H') → c = true → Out m1 (fun s => Out (f s) Φ Ψ) Ψ → t D σ H)
    (h2 : (∀ s σ' H' L', Rel H' L' → P s σ' L' → Out (f s) Φ Ψ → D.nx σ' H') → c = false → Out m2 (fun s => Out (f s) Φ Ψ) Ψ → u D σ H) : if c = true then t D σ H else u D σ H := by
  cases c with
  | true => exact h1 k rfl h.t
  | false => exact h2 k rfl h.t
def oC {ε α β : Type} (o : Option α) (m1 : Res ε β) (m2 : α → Res ε β) : Res ε β := match o with
  | none => m1
  | some y => m2 y
theorem oC_none {m1 : Res ε β} {m2 : α → Res ε β} (h : Out (oC none m1 m2) Φ Ψ) : Out m1 Φ Ψ := h
theorem oC_some {m1 : Res ε β} {m2 : α → Res ε β} {y : α} (h : Out (oC (some y) m1 m2) Φ Ψ) : Out (m2 y) Φ Ψ := h
theorem st_joinN {γ : Type} {o : Option γ} {m1 : Res ε α} {m2 : γ → Res ε α} {f : α → Res ε β} (P : α → L2.St → List Cell → Prop) (h : Out ((oC o m1 m2).then_ f) Φ Ψ)
    (k : ∀ s σ' H' L', Rel H' L' → P s σ' L' → Out (f s) Φ Ψ → D.nx σ' H')
    (h1 : (∀ s σ' H' L', Rel H' L' → P s σ' L' → Out (f s) Φ Ψ → D.nx σ' H') → o = none → Out m1 (fun s => Out (f s) Φ Ψ) Ψ → t D σ H)
    (h2 : (∀ s σ' H' L', Rel H' L' → P s σ' L' → Out (f s) Φ Ψ → D.nx σ' H') → ∀ y, o = some y → Out (m2 y) (fun s => Out (f s) Φ Ψ) Ψ → u D σ H) : if o.isNone = true then t D σ H else u D σ H := by
  cases o with
  | none => exact h1 k rfl h.t
  | some y => exact h2 k y rfl h.t
theorem st_joinS {γ : Type} {o : Option γ} {m1 : Res ε α} {m2 : γ → Res ε α} {f : α → Res ε β} (P : α → L2.St → List Cell → Prop) (h : Out ((oC o m1 m2).then_ f) Φ Ψ)
    (k : ∀ s σ' H' L', Rel H' L' → P s σ' L' → Out (f s) Φ Ψ → D.nx σ' H')
    (h1 : (∀ s σ' H' L', Rel H' L' → P s σ' L' → Out (f s) Φ Ψ → D.nx σ' H') → o = none → Out m1 (fun s => Out (f s) Φ Ψ) Ψ → u D σ H)
    (h2 : (∀ s σ' H' L', Rel H' L' → P s σ' L' → Out (f s) Φ Ψ → D.nx σ' H') → ∀ y, o = some y → Out (m2 y) (fun s => Out (f s) Φ Ψ) Ψ → t D σ H) : if o.isSome = true then t D σ H else u D σ H := by
  cases o with
  | none => exact h1 k rfl h.t
  | some y => exact h2 k y rfl h.t
theorem st_bind {m : Res ε α} {f : α → Res ε β} (h : Out (m.then_ f) Φ Ψ) : Out m (fun s => Out (f s) Φ Ψ) Ψ := h.t
def AndT (tu : TT) (σ : L2.St) (Qb : Bool → Hp → Prop) (c : Bool) (H1 : Hp) : Prop := if c = true then tu σ H1 Qb else Qb false H1
def OrT (tu : TT) (σ : L2.St) (Qb : Bool → Hp → Prop) (c : Bool) (H1 : Hp) : Prop := if c = true then Qb true H1 else tu σ H1 Qb
def AndV (tb : TE) (σ : L2.St) (Q : VK) (x : V) (H1 : Hp) : Prop := ∃ c, x = .bl c ∧ if c = true then tb σ H1 Q else Q (.bl false) H1
def OrV (tb : TE) (σ : L2.St) (Q : VK) (x : V) (H1 : Hp) : Prop := ∃ c, x = .bl c ∧ if c = true then Q (.bl true) H1 else tb σ H1 Q
def ChV (r' : R2) (tc : TE) (σ : L2.St) (y : V) (Q : VK) (z : V) (H3 : Hp) : Prop := ∃ k, z = .bl k ∧ (if k = true then tc σ H3 fun w' H4 => r' y w' H4 Q else Q (.bl false) H3)
section
variable {Qb : Bool → Hp → Prop} {c d : Bool} {m : Res ε Bool} {f : Bool → Res ε β} {r r' : R2} {tc : TE}
theorem gn_and (q : tt σ H (AndT tu σ Qb)) : tAnd tt tu σ H Qb := q
theorem gn_or (q : tt σ H (OrT tu σ Qb)) : tOr tt tu σ H Qb := q
theorem gn_andV (q : ta σ H (AndV tb σ Q)) : tAndV ta tb σ H Q := q
theorem gn_orV (q : ta σ H (OrV tb σ Q)) : tOrV ta tb σ H Q := q
theorem gn_chain (q : ta σ H fun x H1 => tb σ H1 fun y H2 => r x y H2 (ChV r' tc σ y Q)) : tChain r r' ta tb tc σ H Q := q
theorem gn_chainT (q : tChain r r' ta tb tc σ H (fun x H' => ∃ k, x = .bl k ∧ Qb k H')) : tChainT r r' ta tb tc σ H Qb := q
theorem st_andP (hh : Qb (c && d) H) (q : Qb d H → tu σ H Qb) : AndT tu σ Qb c H := by
  cases c with
  | true => exact q hh
  | false => exact hh
theorem st_orP (hh : Qb (c || d) H) (q : Qb d H → tu σ H Qb) : OrT tu σ Qb c H := by
  cases c with
  | true => exact hh
  | false => exact q hh
theorem st_andVP (hh : Q (.bl (c && d)) H) (q : Q (.bl d) H → tb σ H Q) : AndV tb σ Q (.bl c) H := by
  refine ⟨c, rfl, ?_⟩
  cases c with
  | true => exact q hh
  | false => exact hh
theorem st_orVP (hh : Q (.bl (c || d)) H) (q : Q (.bl d) H → tb σ H Q) : OrV tb σ Q (.bl c) H := by
  refine ⟨c, rfl, ?_⟩
  cases c with
  | true => exact hh
  | false => exact q hh
theorem st_chP {y : V} (hh : Q (.bl (c && d)) H) (q : Q (.bl d) H → tc σ H fun w' H4 => r' y w' H4 Q) : ChV r' tc σ y Q (.bl c) H := by
  refine ⟨c, rfl, ?_⟩
  cases c with
  | true => exact q hh
  | false => exact hh
/-- the same where calls change the heap: k at every heap with these cells -/
theorem st_andC (R : Rel H L) (h : Out ((andR c m).then_ f) Φ Ψ) (k : ∀ b H', Rel H' L → Out (f b) Φ Ψ → Qb b H') (q : (∀ b H', Rel H' L → Out (f b) Φ Ψ → Qb b H') → Out m (fun b => Out (f b) Φ Ψ) Ψ → tu σ H Qb) : AndT tu σ Qb c H := by
  cases c with
  | true => exact q k h.t
  | false => exact k _ _ R h
theorem st_orC (R : Rel H L) (h : Out ((orR c m).then_ f) Φ Ψ) (k : ∀ b H', Rel H' L → Out (f b) Φ Ψ → Qb b H') (q : (∀ b H', Rel H' L → Out (f b) Φ Ψ → Qb b H') → Out m (fun b => Out (f b) Φ Ψ) Ψ → tu σ H Qb) : OrT tu σ Qb c H := by
  cases c with
  | true => exact k _ _ R h
  | false => exact q k h.t
theorem st_andVC (R : Rel H L) (h : Out ((andR c m).then_ f) Φ Ψ) (k : ∀ b H', Rel H' L → Out (f b) Φ Ψ → Q (.bl b) H') (q : (∀ b H', Rel H' L → Out (f b) Φ Ψ → Q (.bl b) H') → Out m (fun b => Out (f b) Φ Ψ) Ψ → tb σ H Q) : AndV tb σ Q (.bl c) H := by
  refine ⟨c, rfl, ?_⟩
  cases c with
  | true => exact q k h.t
  | false => exact k _ _ R h
theorem st_orVC (R : Rel H L) (h : Out ((orR c m).then_ f) Φ Ψ) (k : ∀ b H', Rel H' L → Out (f b) Φ Ψ → Q (.bl b) H') (q : (∀ b H', Rel H' L → Out (f b) Φ Ψ → Q (.bl b) H') → Out m (fun b => Out (f b) Φ Ψ) Ψ → tb σ H Q) : OrV tb σ Q (.bl c) H := by
  refine ⟨c, rfl, ?_⟩
  cases c with
  | true => exact k _ _ R h
  | false => exact q k h.t
end
/-! ### lists -/
theorem st_len [Fr α] {xs : List α} (R : Rel H L) (l : HasL K a xs L) (q : Q (.int (xs.length : Int)) H) : rLenV K [V.ref a] H Q := by
  obtain ⟨vs, h1, h2⟩ := l H R
  refine ⟨_, vs.length, rfl, .inl ⟨vs, h1, rfl⟩, ?_⟩
  rw [← Paired.length h2]; exact q
theorem atI_frs [Fr α] {xs : List α} {vs : List V} {i : Int} {x : α} (f : Frs H xs vs) (h : atI xs i = some x) : ∃ v, atI vs i = some v ∧ Fr.is H x v := by
  unfold atI at h ⊢
  rw [← Paired.length f]
  obtain ⟨j, h1, h2⟩ := Option.bind_eq_some_iff.mp h
  obtain ⟨v, h3, h4⟩ := f.get h2
  exact ⟨v, by rw [h1]; exact h3, h4⟩
theorem st_ix [Fr α] [Sc α] {xs : List α} {i : Int} {f : α → Res ε β} (R : Rel H L) (l : HasL K a xs L) (h : Out ((ixL xs i).bind f) Φ Ψ) (q : ∀ x, Out (f x) Φ Ψ → Q (Sc.val x) H) : rIxL K (.ref a) (.int i) H Q := by
  obtain ⟨x, e, h⟩ := Out.o h
  obtain ⟨vs, h1, h2⟩ := l H R
  obtain ⟨v, h3, h4⟩ := atI_frs h2 e
  refine ⟨a, vs, i, v, rfl, rfl, h1, h3, ?_⟩
  rw [Sc.sc.mp h4]; exact q x h
theorem st_ixI {xs : List Int} {i : Int} {f : Int → Res ε β} (R : Rel H L) (l : HasL K a xs L) (h : Out ((ixL xs i).bind f) Φ Ψ) (q : ∀ x, Out (f x) Φ Ψ → Q (.int x) H) : rIxL K (.ref a) (.int i) H Q := st_ix R l h q
theorem st_ixB {xs : List Bool} {i : Int} {f : Bool → Res ε β} (R : Rel H L) (l : HasL K a xs L) (h : Out ((ixL xs i).bind f) Φ Ψ) (q : ∀ x, Out (f x) Φ Ψ → Q (.bl x) H) : rIxL K (.ref a) (.int i) H Q := st_ix R l h q
theorem st_ixS {xs : List Str} {i : Int} {f : Str → Res ε β} (R : Rel H L) (l : HasL K a xs L) (h : Out ((ixL xs i).bind f) Φ Ψ) (q : ∀ x, Out (f x) Φ Ψ → Q (.str x) H) : rIxL K (.ref a) (.int i) H Q := st_ix R l h q
theorem st_ixF [Fr α] {xs : List α} {i : Int} {f : α → Res ε β} (R : Rel H L) (l : HasL K a xs L) (h : Out ((ixL xs i).bind f) Φ Ψ) (q : ∀ x v, Rel H (CF x v :: L) → Out (f x) Φ Ψ → Q v H) : rIxL K (.ref a) (.int i) H Q := by
  obtain ⟨x, e, h⟩ := Out.o h
  obtain ⟨vs, h1, h2⟩ := l H R
  obtain ⟨v, h3, h4⟩ := atI_frs h2 e
  exact ⟨a, vs, i, v, rfl, rfl, h1, h3, q x v (R.addC h4) h⟩
theorem st_new [Fr α] {xs : List α} {vs : List V} (R : Rel H L) (f : Frs H xs vs) (hl : vs.length ≤ 1000) (q : ∀ a H', Rel H' ((a, lsF xs) :: L) → Q (.ref a) H') : NewL Q vs H :=
  ⟨by rw [PySem.sizeLine_eq]; omega, fun p hp => q p _ ((R.new hp).rawLs (f.pers (Pers.new hp)))⟩
theorem st_listOf [Fr α] {xs : List α} (R : Rel H L) (l : HasL K a xs L) (q : ∀ b H', Rel H' ((b, lsF xs) :: L) → Q (.ref b) H') : rListOf K [V.ref a] H Q := by
  obtain ⟨vs, h1, h2⟩ := l H R
  exact ⟨_, vs, rfl, .inl h1, fun b hb => q b _ ((R.new hb).rawLs (h2.pers (Pers.new hb)))⟩
theorem st_app [Fr α] {xs : List α} {x : α} {v : V} {mk : List α → List Cell} {f : List α → Res ε β} (R : Rel H L) (m : MutL a xs L mk) (w : Fr.is H x v) (h : Out ((appL xs x).bind f) Φ Ψ) (q : ∀ y H', Rel H' (mk y) → Out (f y) Φ Ψ → Q .non H') : rAppend (.ref a) [v] H Q := by
  obtain ⟨c, h⟩ := Out.g h
  obtain ⟨vs, h1, h2, h3⟩ := m H R
  exact ⟨a, vs, v, rfl, rfl, h1, by rw [← Paired.length h2, PySem.sizeLine_eq]; unfold few at c; omega, q _ _ (h3 _ _ (h2.app (.cons w .nil))) h⟩
theorem st_set [Fr α] {xs : List α} {i : Int} {x : α} {v : V} {mk : List α → List Cell} {f : List α → Res ε β} {Qs : L2.St → Hp → Prop} (R : Rel H L) (m : MutL a xs L mk) (w : Fr.is H x v) (h : Out ((setL xs i x).bind f) Φ Ψ) (q : ∀ ys H', Rel H' (mk ys) → Out (f ys) Φ Ψ → Qs σ H') : SubAt rSetL Qs σ v (.ref a) (.int i) H := by
  obtain ⟨ys, e, h⟩ := Out.o h
  obtain ⟨j, e1, e2⟩ := Option.map_eq_some_iff.mp e
  obtain ⟨vs, h1, h2, h3⟩ := m H R
  subst e2
  exact ⟨a, vs, i, j, rfl, rfl, h1, by rw [← Paired.length h2]; exact e1, q _ _ (h3 _ _ (Frs.set w j h2)) h⟩
def augL (xs : List Int) (i : Int) (g : Int → Int) : Res Empty (List Int) := .ofO ((ixN xs.length i).bind fun j => xs[j]?.map fun x => xs.set j (g x))
theorem st_aug {xs : List Int} {i n : Int} {g : Int → Int → Int} {mk : List Int → List Cell} {f : List Int → Res ε β} (R : Rel H L) (m : MutL a xs L mk) (h : Out ((augL xs i fun x => g x n).bind f) Φ Ψ) (q : ∀ ys H', Rel H' (mk ys) → Out (f ys) Φ Ψ → D.nx σ H') (hv : ∀ Q : VK, Q (.int n) H → te σ H Q) :
    AugAt te (rIxL K) (ipI g) rSetL D σ (.ref a) (.int i) H := by
  obtain ⟨ys, e, h⟩ := Out.o h
  obtain ⟨j, e1, e2⟩ := Option.bind_eq_some_iff.mp e
  obtain ⟨x, e3, e4⟩ := Option.map_eq_some_iff.mp e2
  obtain ⟨vs, h1, h2, h3⟩ := m H R
  subst e4
  obtain ⟨v, h4, h5⟩ := h2.get e3
  have hl := Paired.length h2
  refine ⟨a, vs, i, v, rfl, rfl, .inl (.inl h1), by unfold atI; rw [← hl, e1]; exact h4, ?_⟩
  refine hv _ ?_
  exact ⟨x, n, h5, rfl, a, vs, i, j, rfl, rfl, h1, by rw [← hl]; exact e1, q _ _ (h3 _ _ (Frs.set rfl j h2)) h⟩
theorem cut_frs [Fr α] {xs : List α} {vs : List V} {lo hi : Option Int} (f : Frs H xs vs) : Frs H (cutL xs lo hi) (cutV vs lo hi) := by
  unfold cutL cutV
  rw [← Paired.length f]
  exact Frs.take _ (Frs.drop _ f)
theorem st_cut [Fr α] {xs : List α} {lo hi : Option Int} (R : Rel H L) (l : HasL K a xs L) (q : ∀ b H', Rel H' ((b, lsF (cutL xs lo hi)) :: L) → Q (.ref b) H') : rSlL K (.ref a) lo hi H Q := by
  obtain ⟨vs, h1, h2⟩ := l H R
  exact ⟨a, vs, rfl, h1, fun p hp => q p _ ((R.new hp).rawLs ((cut_frs h2).pers (Pers.new hp)))⟩
theorem st_cat [Fr α] {xs ys : List α} {a' : Addr} {mk mk' : List α → List Cell} {f : List α → Res ε β} (R : Rel H L) (l : MutL a xs L mk) (l' : MutL a' ys L mk') (h : Out ((catL xs ys).bind f) Φ Ψ) (q : ∀ y b H', Rel H' ((b, lsF y) :: L) → Out (f y) Φ Ψ → Q (.ref b) H') : rCat (.ref a) (.ref a') H Q := by
  obtain ⟨c, h⟩ := Out.g h
  obtain ⟨vs, h1, h2, _⟩ := l H R
  obtain ⟨ws, h3, h4, _⟩ := l' H R
  exact ⟨a, a', vs, ws, rfl, rfl, h1, h3, by rw [← Paired.length h2, ← Paired.length h4, PySem.sizeLine_eq]; unfold few at c; omega, fun p hp => q _ p _ ((R.new hp).rawLs ((h2.app h4).pers (Pers.new hp))) h⟩
theorem rep_frs [Fr α] {xs : List α} {vs : List V} (f : Frs H xs vs) : ∀ n, Frs H (List.replicate n xs).flatten (List.replicate n vs).flatten
  | 0 => .nil
  | n + 1 => by rw [List.replicate_succ, List.replicate_succ, List.flatten_cons, List.flatten_cons]; exact f.app (rep_frs f n)
theorem st_rep [Fr α] {xs : List α} {k : Int} {mk : List α → List Cell} {f : List α → Res ε β} (R : Rel H L) (l : MutL a xs L mk) (h : Out ((repL xs k).bind f) Φ Ψ) (q : ∀ y b H', Rel H' ((b, lsF y) :: L) → Out (f y) Φ Ψ → Q (.ref b) H') : rRep (.ref a) (.int k) H Q := by
  obtain ⟨⟨c1, c2, c3⟩, h⟩ := Out.g h
  obtain ⟨vs, h1, h2, _⟩ := l H R
  exact ⟨a, k, vs, rfl, rfl, h1, c1, c2, by rw [← Paired.length h2, PySem.sizeLine_eq]; unfold few at c3; omega, fun p hp => q _ p _ ((R.new hp).rawLs ((rep_frs h2 _).pers (Pers.new hp))) h⟩
theorem inV_int {x : Int} {xs : List Int} : inV (.int x) (xs.map V.int) = decide (x ∈ xs) := by
  unfold inV
  rw [List.any_map]
  induction xs with
  | nil => rfl
  | cons y ys ih =>
    rw [List.any_cons, ih]
    have e : eqV (.int y) (.int x) = decide (x = y) := by
      show decide (y = x) = _
      exact decide_eq_decide.mpr ⟨Eq.symm, Eq.symm⟩
    show (eqV (.int y) (.int x) || decide (x ∈ ys)) = _
    rw [e, ← Bool.decide_or]
    exact decide_eq_decide.mpr List.mem_cons.symm
theorem flat_ints (xs : List Int) : (xs.map V.int).all flatV = true := List.all_eq_true.mpr fun v hv => by
  obtain ⟨i, _, rfl⟩ := List.mem_map.mp hv; rfl
theorem st_in {x : Int} {xs : List Int} (R : Rel H L) (l : HasL K a xs L) (q : Q (.bl (decide (x ∈ xs))) H) : rIn K false (.int x) (.ref a) H Q := by
  obtain ⟨vs, h1, h2⟩ := l H R
  have e := Frs.sc h2
  subst e
  refine ⟨a, _, rfl, .inl h1, rfl, flat_ints xs, ?_⟩
  show Q (.bl (inV (.int x) (xs.map V.int))) H
  rw [inV_int]; exact q
theorem st_notin {x : Int} {xs : List Int} (R : Rel H L) (l : HasL K a xs L) (q : Q (.bl (!decide (x ∈ xs))) H) : rIn K true (.int x) (.ref a) H Q := by
  obtain ⟨vs, h1, h2⟩ := l H R
  have e := Frs.sc h2
  subst e
  refine ⟨a, _, rfl, .inl h1, rfl, flat_ints xs, ?_⟩
  show Q (.bl (!inV (.int x) (xs.map V.int))) H
  rw [inV_int]; exact q
theorem st_sum {xs : List Int} (R : Rel H L) (l : HasL K a xs L) (q : Q (.int xs.sum) H) : rSum K [V.ref a] H Q := by
  obtain ⟨vs, h1, h2⟩ := l H R
  have e := Frs.sc h2
  subst e
  exact ⟨a, xs, rfl, h1, q⟩
/-- the numbers in order -/
def sortI (xs : List Int) : List Int := xs.mergeSort
theorem sortI_eq {xs ys : List Int} (p : ys.Perm xs) (s : ys.Pairwise (· ≤ ·)) : ys = sortI xs := by
  have s2 : (sortI xs).Pairwise (· ≤ ·) := by
    have := List.pairwise_mergeSort (le := fun a b : Int => decide (a ≤ b)) (fun a b c h1 h2 => by simp at *; omega) (fun a b => by simp; omega) xs
    exact this.imp fun h => by simpa using h
  have p2 : (sortI xs).Perm xs := List.mergeSort_perm ..
  exact List.Perm.eq_of_pairwise (fun a b _ _ h1 h2 => Int.le_antisymm h1 h2) s s2 (p.trans p2.symm)
theorem st_sortI {xs : List Int} (R : Rel H L) (l : HasL K a xs L) (q : ∀ b H', Rel H' ((b, lsF (sortI xs)) :: L) → Q (.ref b) H') : rSortedI K [V.ref a] H Q := by
  obtain ⟨vs, h1, h2⟩ := l H R
  have e := Frs.sc h2
  subst e
  refine ⟨a, xs, rfl, h1, fun ns' p hp s hn => ?_⟩
  rw [sortI_eq hp s]
  exact q p _ ((R.new hn).rawLs (Frs.ofSc _))
/-! ### fields -/
def max2 (i j : Int) : Int := if j > i then j else i
def min2 (i j : Int) : Int := if j < i then j else i
theorem st_max2 {i j : Int} (q : Q (.int (max2 i j)) H) : rMax2 [.int i, .int j] H Q := ⟨i, j, rfl, q⟩
theorem st_min2 {i j : Int} (q : Q (.int (min2 i j)) H) : rMin2 [.int i, .int j] H Q := ⟨i, j, rfl, q⟩
theorem st_bmL [Fr α] {xs : List α} {r : V → List V → Hp → VK → Prop} (R : Rel H L) (l : HasL K a xs L) (q : tar σ H fun ys H2 => r (.ref a) ys H2 Q) : BmAt K "list" r tar σ Q (.ref a) H := by
  obtain ⟨vs, h1, h2⟩ := l H R
  exact ⟨.inl ⟨rfl, vs, h1⟩, q⟩
theorem st_isiI {T : String} {b : Bool} {i : Int} (hk : kitB "int" T = some b) (q : Q (.bl b) H) : rIsi K [.int i, .ty T] H Q := ⟨.int i, .ty T, .type "int", .type T, b, rfl, .ty T, .base (.int _), kit_ty hk, q⟩
theorem st_isiB {T : String} {b : Bool} {i : Bool} (hk : kitB "bool" T = some b) (q : Q (.bl b) H) : rIsi K [.bl i, .ty T] H Q := ⟨.bl i, .ty T, .type "bool", .type T, b, rfl, .ty T, .base (.bl _), kit_ty hk, q⟩
theorem go_cf {P : Prop} (q : P) : P := q
end
end Wn
namespace Wn
open PySem L2

/-! ### dicts whose keys are ints or texts -/
class Ky (κ : Type) where
  key : κ → Key
  inj : ∀ {a b}, key a = key b → a = b
  dec : DecidableEq κ
instance : Ky Int := ⟨Sum.inl, fun h => Sum.inl.inj h, inferInstance⟩
instance : Ky Str := ⟨Sum.inr, fun h => Sum.inr.inj h, inferInstance⟩
instance {κ : Type} [Ky κ] : DecidableEq κ := Ky.dec
def dLook {κ α : Type} [Ky κ] (kvs : List (κ × α)) (k : κ) : Option α := (kvs.find? fun q => decide (q.1 = k)).map (·.2)
def dPut {κ α : Type} [Ky κ] (kvs : List (κ × α)) (k : κ) (x : α) : List (κ × α) :=
  if (kvs.any fun q => decide (q.1 = k)) = true then kvs.map (fun q => if q.1 = k then (q.1, x) else q) else kvs ++ [(k, x)]
def dDrop {κ α : Type} [Ky κ] (kvs : List (κ × α)) (k : κ) : List (κ × α) := kvs.filter fun q => decide (q.1 ≠ k)
abbrev DRel {κ α : Type} [Ky κ] [Fr α] (H : Hp) (kvs : List (κ × α)) (ks : List (Key × V)) : Prop := Paired (fun (p : κ × α) (q : Key × V) => q.1 = Ky.key p.1 ∧ Fr.is H p.2 q.2) kvs ks
section
variable {κ α : Type} [Ky κ] [Fr α] {H H' : Hp}
theorem ky_dec {a b : κ} : decide (Ky.key a = Ky.key b) = decide (a = b) := decide_eq_decide.mpr ⟨Ky.inj, congrArg _⟩
theorem DRel.pers : ∀ {kvs : List (κ × α)} {ks : List (Key × V)}, DRel H kvs ks → Pers H H' → DRel H' kvs ks
  | _, _, .nil, _ => .nil
  | _, _, .cons a t, p => .cons ⟨a.1, Fr.pers a.2 p⟩ (DRel.pers t p)
theorem DRel.look (k : κ) : ∀ {kvs : List (κ × α)} {ks : List (Key × V)}, DRel H kvs ks → (∃ x v, dLook kvs k = some x ∧ valV ks (Ky.key k) = some v ∧ Fr.is H x v) ∨ (dLook kvs k = none ∧ valV ks (Ky.key k) = none)
  | _, _, .nil => .inr ⟨rfl, rfl⟩
  | p :: kvs, q :: ks, .cons a t => by
    unfold dLook valV
    rw [List.find?_cons, List.find?_cons, a.1, ky_dec]
    cases decide (p.1 = k) with
    | true => exact .inl ⟨_, _, rfl, rfl, a.2⟩
    | false => exact DRel.look k t
theorem DRel.any (k : κ) : ∀ {kvs : List (κ × α)} {ks : List (Key × V)}, DRel H kvs ks → (ks.any fun q => decide (q.1 = Ky.key k)) = (kvs.any fun q => decide (q.1 = k))
  | _, _, .nil => rfl
  | p :: kvs, q :: ks, .cons a t => by rw [List.any_cons, List.any_cons, DRel.any k t, a.1, ky_dec]
theorem DRel.putM (k : κ) {x : α} {v : V} (f : Fr.is H x v) : ∀ {kvs : List (κ × α)} {ks : List (Key × V)}, DRel H kvs ks → DRel H (kvs.map fun q => if q.1 = k then (q.1, x) else q) (ks.map fun q => if q.1 = Ky.key k then (q.1, v) else q)
  | _, _, .nil => .nil
  | p :: kvs, q :: ks, .cons a t => by
    refine .cons ?_ (DRel.putM k f t)
    show (if q.1 = Ky.key k then (q.1, v) else q).1 = Ky.key (if p.1 = k then (p.1, x) else p).1 ∧ Fr.is H (if p.1 = k then (p.1, x) else p).2 (if q.1 = Ky.key k then (q.1, v) else q).2
    by_cases h : p.1 = k
    · rw [if_pos h, if_pos (by rw [a.1, h])]; exact ⟨a.1, f⟩
    · rw [if_neg h, if_neg (by rw [a.1]; exact fun z => h (Ky.inj z))]; exact a
theorem DRel.put (k : κ) {x : α} {v : V} (f : Fr.is H x v) {kvs : List (κ × α)} {ks : List (Key × V)} (d : DRel H kvs ks) : DRel H (dPut kvs k x) (putK ks (Ky.key k) v) := by
  unfold dPut putK
  have e := d.any k
  cases c : (kvs.any fun q => decide (q.1 = k)) with
  | true =>
    rw [if_pos rfl, if_pos (e.trans c)]
    exact d.putM k f
  | false =>
    rw [if_neg (by decide), if_neg (by rw [e, c]; decide)]
    exact paired_app d (.cons ⟨rfl, f⟩ .nil)
theorem DRel.drop (k : κ) : ∀ {kvs : List (κ × α)} {ks : List (Key × V)}, DRel H kvs ks → DRel H (dDrop kvs k) (dropK ks (Ky.key k))
  | _, _, .nil => .nil
  | p :: kvs, q :: ks, .cons a t => by
    unfold dDrop dropK
    rw [List.filter_cons, List.filter_cons]
    by_cases h : p.1 = k
    · have h2 : q.1 = Ky.key k := by rw [a.1, h]
      rw [if_neg (by simp [h]), if_neg (by simp [h2])]
      exact DRel.drop k t
    · have h2 : ¬ q.1 = Ky.key k := by rw [a.1]; exact fun z => h (Ky.inj z)
      rw [if_pos (by simp [h]), if_pos (by simp [h2])]
      exact .cons a (DRel.drop k t)
end
def dcF {κ α : Type} [Ky κ] [Fr α] (kvs : List (κ × α)) : BO where
  sat H a fp := ∃ ks, H a = some (.dK ks) ∧ DRel H kvs ks ∧ fp = [a]
  loc H H' a fp h k p := by
    obtain ⟨vs, h1, h2, rfl⟩ := h
    exact ⟨vs, (k a (by simp)).trans h1, h2.pers p, rfl⟩
  own H a fp h b hb := by
    obtain ⟨vs, h1, h2, rfl⟩ := h
    simp at hb; subst hb; exact ⟨_, h1⟩
def HasD {κ α : Type} [Ky κ] [Fr α] (a : Addr) (kvs : List (κ × α)) (L : List Cell) : Prop := ∀ H, Rel H L → ∃ ks, H a = some (.dK ks) ∧ DRel H kvs ks
def MutD {κ α : Type} [Ky κ] [Fr α] (a : Addr) (kvs : List (κ × α)) (L : List Cell) (mk : List (κ × α) → List Cell) : Prop := ∀ H, Rel H L → ∃ ks, H a = some (.dK ks) ∧ DRel H kvs ks ∧ (∀ ys ws, DRel H ys ws → Rel (upd H a (.dK ws)) (mk ys))
section
variable {K : PySem.W.Frag} {κ α : Type} [Ky κ] [Fr α] {H : Hp} {kvs : List (κ × α)} {ks : List (Key × V)} {a p : Addr} {L L' A B M : List Cell} {cs : List Cell}
theorem Rel.rawDc {L : List Cell} (R : Rel H ((a, raw (.dK ks)) :: L)) (f : DRel H kvs ks) : Rel H ((a, dcF kvs) :: L) := by
  obtain ⟨fps, q, nd⟩ := R
  cases q with
  | cons q t => exact ⟨_, .cons ⟨ks, q.1, f, q.2⟩ t, nd⟩
theorem MutD.of (s : Sel (a, dcF kvs) L L') : MutD a kvs L (fun ys => (a, dcF ys) :: L') := fun H R => by
  have R1 := R.sel s
  obtain ⟨fps, q, nd⟩ := id R1
  cases q with
  | cons q t =>
    obtain ⟨vs, h1, h2, h3⟩ := q
    subst h3
    refine ⟨vs, h1, h2, fun ys ws f => ?_⟩
    have R2 : Rel H ((a, raw (.dK vs)) :: L') := ⟨_, .cons ⟨h1, rfl⟩ t, nd⟩
    exact (R2.put0 rfl).rawDc (f.pers (Pers.upd h1 rfl))
theorem MutD.has {mk : List (κ × α) → List Cell} (m : MutD a kvs L mk) : HasD a kvs L := fun H R => by
  obtain ⟨vs, h1, h2, _⟩ := m H R
  exact ⟨vs, h1, h2⟩
theorem MutD.obj {mk : List (κ × α) → List Cell} (s : Sel (p, objO (A ++ (a, dcF kvs) :: B)) L L') (hm : ∀ ys, mk ys = A ++ (a, dcF ys) :: B) : MutD a kvs L (fun ys => (p, objO (mk ys)) :: L') := fun H R => by
  have R1 := obj_open R s
  rw [List.append_assoc] at R1
  obtain ⟨vs, h1, h2, h3⟩ := MutD.of (kvs := kvs) (a := a) (selMid (A := A) (B := B ++ L')) H R1
  refine ⟨vs, h1, h2, fun ys ws f => ?_⟩
  have R2 := h3 ys ws f
  refine obj_close ?_
  rw [hm ys, List.append_assoc]
  exact Rel.toFront R2
end
def getD_ {κ α : Type} [Ky κ] (kvs : List (κ × α)) (k : κ) : Res Empty α := .ofO (dLook kvs k)
def putD_ {κ α : Type} [Ky κ] (kvs : List (κ × α)) (k : κ) (x : α) : Res Empty (List (κ × α)) := Res.guard (kvs.length < few) (dPut kvs k x)
section
variable {K : PySem.W.Frag} {σ : L2.St} {H : Hp} {Q : VK} {D : Ends} {te ta tb td ty tv : TE} {L L' : List Cell} {a p : Addr} {κ α : Type} [Ky κ] [Fr α] {kvs : List (κ × α)}
variable {ε β : Type} {Φ : β → Prop} {Ψ : ε → Prop}
theorem st_dget [Sc α] {k : κ} {f : α → Res ε β} {y : V} (R : Rel H L) (m : HasD a kvs L) (hy : y = kV (Ky.key k)) (h : Out ((getD_ kvs k).bind f) Φ Ψ) (q : ∀ x, Out (f x) Φ Ψ → Q (Sc.val x) H) : DGetAt Q (.ref a) y H := by
  obtain ⟨x, e, h⟩ := Out.o h
  obtain ⟨ks, h1, h2⟩ := m H R
  rcases h2.look k with ⟨x', v, e1, e2, e3⟩ | ⟨e1, _⟩
  · rw [e] at e1; cases e1
    refine ⟨a, v, rfl, .inl ⟨ks, Ky.key k, .inl h1, hy, e2.symm⟩, ?_⟩
    rw [Sc.sc.mp e3]; exact q x h
  · rw [e] at e1; cases e1
theorem st_dgetF {k : κ} {f : α → Res ε β} {y : V} (R : Rel H L) (m : HasD a kvs L) (hy : y = kV (Ky.key k)) (h : Out ((getD_ kvs k).bind f) Φ Ψ) (q : ∀ x v, Rel H (CF x v :: L) → Out (f x) Φ Ψ → Q v H) : DGetAt Q (.ref a) y H := by
  obtain ⟨x, e, h⟩ := Out.o h
  obtain ⟨ks, h1, h2⟩ := m H R
  rcases h2.look k with ⟨x', v, e1, e2, e3⟩ | ⟨e1, _⟩
  · rw [e] at e1; cases e1
    exact ⟨a, v, rfl, .inl ⟨ks, Ky.key k, .inl h1, hy, e2.symm⟩, q x v (R.addC e3) h⟩
  · rw [e] at e1; cases e1
def DInAt (Q : VK) (y x : V) (H2 : Hp) : Prop := ∃ a o, x = .ref a ∧ DGet H2 a y o ∧ Q (.bl o.isSome) H2
theorem go_din (q : ty σ H fun y H1 => td σ H1 (DInAt Q y)) : tDIn ty td σ H Q := q
def DNotInAt (Q : VK) (y x : V) (H2 : Hp) : Prop := ∃ a o, x = .ref a ∧ DGet H2 a y o ∧ Q (.bl (!o.isSome)) H2
theorem go_dnotin (q : ty σ H fun y H1 => td σ H1 (DNotInAt Q y)) : tDNotIn ty td σ H Q := q
theorem st_din {k : κ} {y : V} (R : Rel H L) (m : HasD a kvs L) (hy : y = kV (Ky.key k)) (q : Q (.bl (dLook kvs k).isSome) H) : DInAt Q y (.ref a) H := by
  obtain ⟨ks, h1, h2⟩ := m H R
  refine ⟨a, _, rfl, .inl ⟨ks, Ky.key k, .inl h1, hy, rfl⟩, ?_⟩
  rcases h2.look k with ⟨x', v, e1, e2, e3⟩ | ⟨e1, e2⟩ <;> rw [e2] <;> rw [e1] at q <;> exact q
theorem st_dnotin {k : κ} {y : V} (R : Rel H L) (m : HasD a kvs L) (hy : y = kV (Ky.key k)) (q : Q (.bl (!(dLook kvs k).isSome)) H) : DNotInAt Q y (.ref a) H := by
  obtain ⟨ks, h1, h2⟩ := m H R
  refine ⟨a, _, rfl, .inl ⟨ks, Ky.key k, .inl h1, hy, rfl⟩, ?_⟩
  rcases h2.look k with ⟨x', v, e1, e2, e3⟩ | ⟨e1, e2⟩ <;> rw [e2] <;> rw [e1] at q <;> exact q
theorem st_dput {k : κ} {x : α} {v y : V} {mk : List (κ × α) → List Cell} {f : List (κ × α) → Res ε β} (R : Rel H L) (m : MutD a kvs L mk) (hy : y = kV (Ky.key k)) (w : Fr.is H x v) (h : Out ((putD_ kvs k x).bind f) Φ Ψ) (q : ∀ z H', Rel H' (mk z) → Out (f z) Φ Ψ → D.nx σ H') : DPutAt D σ v (.ref a) y H := by
  obtain ⟨c, h⟩ := Out.g h
  obtain ⟨ks, h1, h2, h3⟩ := m H R
  exact ⟨a, _, rfl, .inl ⟨ks, Ky.key k, h1, hy, by rw [← Paired.length h2, PySem.sizeLine_eq]; unfold few at c; omega, rfl⟩, q _ _ (h3 _ _ (h2.put k w)) h⟩
theorem st_dnew (R : Rel H L) (q : ∀ b H', Rel H' ((b, dcF ([] : List (κ × α))) :: L) → Q (.ref b) H') : tDNewK σ H Q := fun p hp => q p _ ((R.new hp).rawDc .nil)
def DPopB (Q : VK) (a : Addr) (y : V) (H2 : Hp) : Prop := ∃ (kvs : List (Key × V)) (k : Key) (v : V), H2 a = some (.dK kvs) ∧ y = kV k ∧ valV kvs k = some v ∧ Q v (upd H2 a (.dK (dropK kvs k)))
def DPopA (ty : TE) (σ : L2.St) (Q : VK) (x : V) (H1 : Hp) : Prop := ∃ a, x = .ref a ∧ IsD H1 a ∧ ty σ H1 (DPopB Q a)
theorem go_dpop (q : td σ H (DPopA ty σ Q)) : tDPop1 td ty σ H Q := q
theorem st_dpopA (R : Rel H L) (m : HasD a kvs L) (q : ty σ H (DPopB Q a)) : DPopA ty σ Q (.ref a) H := by
  obtain ⟨ks, h1, h2⟩ := m H R
  exact ⟨a, rfl, .inl ⟨ks, .inl h1⟩, q⟩
theorem st_dpop [Sc α] {k : κ} {y : V} {mk : List (κ × α) → List Cell} {f : α → Res ε β} (R : Rel H L) (m : MutD a kvs L mk) (hy : y = kV (Ky.key k)) (h : Out ((getD_ kvs k).bind f) Φ Ψ) (q : ∀ x H', Rel H' (mk (dDrop kvs k)) → Out (f x) Φ Ψ → Q (Sc.val x) H') : DPopB Q a y H := by
  obtain ⟨x, e, h⟩ := Out.o h
  obtain ⟨ks, h1, h2, h3⟩ := m H R
  rcases h2.look k with ⟨x', v, e1, e2, e3⟩ | ⟨e1, _⟩
  · rw [e] at e1; cases e1
    refine ⟨ks, Ky.key k, v, h1, hy, e2, ?_⟩
    rw [Sc.sc.mp e3]
    exact q x _ (h3 _ _ (h2.drop k)) h
  · rw [e] at e1; cases e1
end
/-! ### tuples -/
section
variable {K : PySem.W.Frag} {σ : L2.St} {H : Hp} {Q : VK} {D : Ends} {L L' : List Cell} {v va vb vc vd ve : V} {Qs : L2.St → Hp → Prop} {t : TGs}
variable {α β γ δ ε : Type} [Fr α] [Fr β] [Fr γ] [Fr δ] [Fr ε]
theorem st_mk2 {x : α} {y : β} (R : Rel H L) (h1 : Fr.is H x va) (h2 : Fr.is H y vb) (q : ∀ a H', Rel H' (CF (T2.mk x y) (.ref a) :: L) → Q (.ref a) H') : NewT Q [va, vb] H :=
  ⟨by rw [PySem.sizeLine_eq]; simp, fun p hp => q p _ ((R.pers (Pers.new hp) fun b o e => by rw [upd_ne (ne_of_none e hp)]; exact e).addC ⟨p, va, vb, rfl, upd_same, Fr.pers h1 (Pers.new hp), Fr.pers h2 (Pers.new hp)⟩)⟩
theorem st_mk3 {x : α} {y : β} {z : γ} (R : Rel H L) (h1 : Fr.is H x va) (h2 : Fr.is H y vb) (h3 : Fr.is H z vc) (q : ∀ a H', Rel H' (CF (T3.mk x y z) (.ref a) :: L) → Q (.ref a) H') : NewT Q [va, vb, vc] H :=
  ⟨by rw [PySem.sizeLine_eq]; simp, fun p hp => q p _ ((R.pers (Pers.new hp) fun b o e => by rw [upd_ne (ne_of_none e hp)]; exact e).addC ⟨p, va, vb, vc, rfl, upd_same, Fr.pers h1 (Pers.new hp), Fr.pers h2 (Pers.new hp), Fr.pers h3 (Pers.new hp)⟩)⟩
theorem st_mk4 {x : α} {y : β} {z : γ} {u : δ} (R : Rel H L) (h1 : Fr.is H x va) (h2 : Fr.is H y vb) (h3 : Fr.is H z vc) (h4 : Fr.is H u vd) (q : ∀ a H', Rel H' (CF (T4.mk x y z u) (.ref a) :: L) → Q (.ref a) H') : NewT Q [va, vb, vc, vd] H :=
  ⟨by rw [PySem.sizeLine_eq]; simp, fun p hp => q p _ ((R.pers (Pers.new hp) fun b o e => by rw [upd_ne (ne_of_none e hp)]; exact e).addC ⟨p, va, vb, vc, vd, rfl, upd_same, Fr.pers h1 (Pers.new hp), Fr.pers h2 (Pers.new hp), Fr.pers h3 (Pers.new hp), Fr.pers h4 (Pers.new hp)⟩)⟩
theorem ix_tup {a : Addr} {xs : List V} {i : Int} {w : V} (h : H a = some (.tup xs)) (e : atI xs i = some w) (q : Q w H) : rIxT K (.ref a) (.int i) H Q := ⟨a, xs, i, w, rfl, rfl, .inl (.inl h), e, q⟩
theorem st_2a {x : T2 α β} (R : Rel H L) (s : Sel (CF x v) L L') (q : ∀ w, Fr.is H x.a w → Q w H) : rIxT K v (.int 0) H Q := by
  obtain ⟨t, va, vb, rfl, h, h1, h2⟩ := R.atC s; exact ix_tup h rfl (q _ h1)
theorem st_2b {x : T2 α β} (R : Rel H L) (s : Sel (CF x v) L L') (q : ∀ w, Fr.is H x.b w → Q w H) : rIxT K v (.int 1) H Q := by
  obtain ⟨t, va, vb, rfl, h, h1, h2⟩ := R.atC s; exact ix_tup h rfl (q _ h2)
theorem st_3a {x : T3 α β γ} (R : Rel H L) (s : Sel (CF x v) L L') (q : ∀ w, Fr.is H x.a w → Q w H) : rIxT K v (.int 0) H Q := by
  obtain ⟨t, va, vb, vc, rfl, h, h1, h2, h3⟩ := R.atC s; exact ix_tup h rfl (q _ h1)
theorem st_3b {x : T3 α β γ} (R : Rel H L) (s : Sel (CF x v) L L') (q : ∀ w, Fr.is H x.b w → Q w H) : rIxT K v (.int 1) H Q := by
  obtain ⟨t, va, vb, vc, rfl, h, h1, h2, h3⟩ := R.atC s; exact ix_tup h rfl (q _ h2)
theorem st_3c {x : T3 α β γ} (R : Rel H L) (s : Sel (CF x v) L L') (q : ∀ w, Fr.is H x.c w → Q w H) : rIxT K v (.int 2) H Q := by
  obtain ⟨t, va, vb, vc, rfl, h, h1, h2, h3⟩ := R.atC s; exact ix_tup h rfl (q _ h3)
theorem st_4a {x : T4 α β γ δ} (R : Rel H L) (s : Sel (CF x v) L L') (q : ∀ w, Fr.is H x.a w → Q w H) : rIxT K v (.int 0) H Q := by
  obtain ⟨t, va, vb, vc, vd, rfl, h, h1, h2, h3, h4⟩ := R.atC s; exact ix_tup h rfl (q _ h1)
theorem st_4b {x : T4 α β γ δ} (R : Rel H L) (s : Sel (CF x v) L L') (q : ∀ w, Fr.is H x.b w → Q w H) : rIxT K v (.int 1) H Q := by
  obtain ⟨t, va, vb, vc, vd, rfl, h, h1, h2, h3, h4⟩ := R.atC s; exact ix_tup h rfl (q _ h2)
theorem st_4c {x : T4 α β γ δ} (R : Rel H L) (s : Sel (CF x v) L L') (q : ∀ w, Fr.is H x.c w → Q w H) : rIxT K v (.int 2) H Q := by
  obtain ⟨t, va, vb, vc, vd, rfl, h, h1, h2, h3, h4⟩ := R.atC s; exact ix_tup h rfl (q _ h3)
theorem st_4d {x : T4 α β γ δ} (R : Rel H L) (s : Sel (CF x v) L L') (q : ∀ w, Fr.is H x.d w → Q w H) : rIxT K v (.int 3) H Q := by
  obtain ⟨t, va, vb, vc, vd, rfl, h, h1, h2, h3, h4⟩ := R.atC s; exact ix_tup h rfl (q _ h4)
theorem st_un2 {x : T2 α β} (R : Rel H L) (s : Sel (CF x v) L L') (q : ∀ va vb, Fr.is H x.a va → Fr.is H x.b vb → t [va, vb] σ H Qs) : gTup K 2 t v σ H Qs := by
  obtain ⟨t, va, vb, rfl, h, h1, h2⟩ := R.atC s; exact ⟨t, _, rfl, .inl (.inl h), rfl, q _ _ h1 h2⟩
theorem st_un3 {x : T3 α β γ} (R : Rel H L) (s : Sel (CF x v) L L') (q : ∀ va vb vc, Fr.is H x.a va → Fr.is H x.b vb → Fr.is H x.c vc → t [va, vb, vc] σ H Qs) : gTup K 3 t v σ H Qs := by
  obtain ⟨t, va, vb, vc, rfl, h, h1, h2, h3⟩ := R.atC s; exact ⟨t, _, rfl, .inl (.inl h), rfl, q _ _ _ h1 h2 h3⟩
theorem st_un4 {x : T4 α β γ δ} (R : Rel H L) (s : Sel (CF x v) L L') (q : ∀ va vb vc vd, Fr.is H x.a va → Fr.is H x.b vb → Fr.is H x.c vc → Fr.is H x.d vd → t [va, vb, vc, vd] σ H Qs) : gTup K 4 t v σ H Qs := by
  obtain ⟨t, va, vb, vc, vd, rfl, h, h1, h2, h3, h4⟩ := R.atC s; exact ⟨t, _, rfl, .inl (.inl h), rfl, q _ _ _ _ h1 h2 h3 h4⟩
theorem fr_nn2 {x : T2 α β} (h : Fr.is H x v) : ¬ v = .non := by obtain ⟨t, _, _, rfl, _⟩ := h; exact fun z => V.noConfusion z
theorem fr_nn3 {x : T3 α β γ} (h : Fr.is H x v) : ¬ v = .non := by obtain ⟨t, _, _, _, rfl, _⟩ := h; exact fun z => V.noConfusion z
theorem fr_nn4 {x : T4 α β γ δ} (h : Fr.is H x v) : ¬ v = .non := by obtain ⟨t, _, _, _, _, rfl, _⟩ := h; exact fun z => V.noConfusion z
theorem Rel.some {α : Type} [Fr α] {x : α} {v : V} {H : Hp} {L L' : List Cell} (R : Rel H L) (s : Sel (CF (Option.some x) v) L L') : Rel H (CF x v :: L') := (R.sel s).drop.addC (R.atC s)
theorem Rel.wrap {α : Type} [Fr α] {x : α} {v : V} {H : Hp} {L L' : List Cell} (R : Rel H L) (s : Sel (CF x v) L L') : Rel H (CF (Option.some x) v :: L') := (R.sel s).drop.addC (x := Option.some x) (R.atC s)
end
/-! ### loops -/
inductive Ctl (S ρ : Type) where
  | nx (s : S)
  | bk (s : S)
  | rt (r : ρ)
section
variable {ε S α ρ : Type}
def ctl {β : Type} (c : Ctl S ρ) (k : S → Res ε β) (r : ρ → Res ε β) : Res ε β := match c with
  | .nx s => k s
  | .bk s => k s
  | .rt x => r x
def foldR (fb : S → α → Res ε S) : S → List α → Res ε S
  | s, [] => .ok s
  | s, x :: xs => (fb s x).then_ fun s' => foldR fb s' xs
def forR (fb : S → α → Res ε (Ctl S ρ)) : S → List α → Res ε (Ctl S ρ)
  | s, [] => .ok (.nx s)
  | s, x :: xs => (fb s x).then_ fun c => match c with
    | .nx s' => forR fb s' xs
    | .bk s' => .ok (.nx s')
    | .rt r => .ok (.rt r)
def lcR {β : Type} (fb : α → Res ε (Option β)) : List β → List α → Res ε (List β)
  | acc, [] => .ok acc
  | acc, x :: xs => if acc.length < few then (fb x).then_ fun o => lcR fb (acc ++ o.toList) xs else .bad
def whileR (fb : S → Res ε (Ctl S ρ)) : Nat → S → Res ε (Ctl S ρ)
  | 0, _ => .bad
  | n + 1, s => (fb s).then_ fun c => match c with
    | .nx s' => whileR fb n s'
    | .bk s' => .ok (.nx s')
    | .rt r => .ok (.rt r)
theorem lcR_ok {β : Type} {fb : α → Res ε (Option β)} {g : α → Option β} : ∀ {xs : List α} {acc : List β}, (∀ x ∈ xs, fb x = .ok (g x)) → acc.length + xs.length ≤ few → lcR fb acc xs = .ok (acc ++ xs.filterMap g)
  | [], acc, _, _ => by simp [lcR]
  | x :: xs, acc, h, hl => by
    rw [List.length_cons] at hl
    show (if acc.length < few then (fb x).then_ fun o => lcR fb (acc ++ o.toList) xs else .bad) = _
    rw [if_pos (by omega), h x List.mem_cons_self, Res.then_ok]
    have hle : (g x).toList.length ≤ 1 := by cases g x <;> simp
    rw [lcR_ok (fun y hy => h y (List.mem_cons_of_mem _ hy)) (by rw [List.length_append]; omega)]
    cases e : g x <;> simp [e]
end
/-- behind a turn -/
def LoopP {S : Type} (P : S → L2.St → List Cell → Prop) (Θ : S → Prop) : L2.St → Hp → Prop := fun σ H => ∃ s L, Rel H L ∧ P s σ L ∧ Θ s
theorem go_loop {S : Type} {P : S → L2.St → List Cell → Prop} {Θ : S → Prop} {σ : L2.St} {H : Hp} (q : LoopP P Θ σ H) : LoopP P Θ σ H := q
theorem loop_end {S : Type} {P : S → L2.St → List Cell → Prop} {Θ : S → Prop} {σ : L2.St} {H : Hp} {cs F M M' : List Cell} (s : S) (h : Θ s) (p : P s σ (cs ++ F)) (R : Rel H M) (ss : Sels cs M M') (d : Drops M' F) : LoopP P Θ σ H := ⟨s, _, R.fin ss d, p, h⟩
section
variable {K : PySem.W.Frag} {σ : L2.St} {H : Hp} {Q : VK} {D : Ends} {L L' : List Cell} {a p : Addr} {J : It} {G : List Cell → Prop} {g : TG} {tb : TS} {tt : TT} {te : TE}
variable {ε β S α ρ : Type} {Φ : β → Prop} {Ψ : ε → Prop}
abbrev YX (xs : List α) (y : α → V → List Cell → Prop) : Nat → V → List Cell → Prop := fun i v cs => ∃ x, xs[i]? = some x ∧ y x v cs
theorem drop_cons {xs : List α} {i : Nat} {x : α} (h : xs[i]? = some x) : xs.drop i = x :: xs.drop (i + 1) := by
  obtain ⟨hi, e⟩ := List.getElem?_eq_some_iff.mp h
  rw [List.drop_eq_getElem_cons hi, e]
theorem st_for {xs : List α} {y : α → V → List Cell → Prop} (w : WkS J xs.length G (YX xs y)) {fb : S → α → Res ε S} {f : S → Res ε β} {s0 : S} (P : S → L2.St → List Cell → Prop) (R : Rel H L) (h : Out ((foldR fb s0 xs).then_ f) Φ Ψ) (p0 : P s0 σ L)
    (hG : ∀ s σ L, P s σ L → G L)
    (hs : ∀ s x v cs σ H L ys, P s σ L → y x v cs → Rel H (cs ++ L) → Out (fb s x) (fun s' => Out ((foldR fb s' ys).then_ f) Φ Ψ) Ψ → g v σ H fun σ2 H2 => tb { D with nx := LoopP P fun s' => Out ((foldR fb s' ys).then_ f) Φ Ψ, ct := LoopP P fun s' => Out ((foldR fb s' ys).then_ f) Φ Ψ, bk := D.nx } σ2 H2)
    (hd : ∀ s σ H L, Rel H L → P s σ L → Out (f s) Φ Ψ → D.nx σ H) : ForJ g tb D σ J H := by
  refine ⟨fun i m σ H => m = xs.length - i ∧ i ≤ xs.length ∧ LoopP P (fun s => Out ((foldR fb s (xs.drop i)).then_ f) Φ Ψ) σ H, ⟨_, rfl, Nat.zero_le _, s0, L, R, p0, h⟩, ?_⟩
  rintro i m σ H ⟨rfl, hi, s, L, R, p, h⟩
  by_cases hl : i < xs.length
  · refine .inr ⟨w.w.goes i H hl ⟨L, R, hG _ _ _ p⟩, LoopP P (fun s => Out ((foldR fb s (xs.drop (i + 1))).then_ f) Φ Ψ), fun σ' H' hN => ⟨_, by omega, rfl, by omega, hN⟩, fun v H' yd => ?_⟩
    obtain ⟨cs, ⟨x, hx, hy⟩, R'⟩ := w.w.yields i H v H' hl ⟨L, R, hG _ _ _ p⟩ yd L R (hG _ _ _ p)
    rw [drop_cons hx] at h
    have h2 : Out (fb s x) (fun s' => Out ((foldR fb s' (xs.drop (i + 1))).then_ f) Φ Ψ) Ψ := by
      have h3 : Out (((fb s x).then_ fun s' => foldR fb s' (xs.drop (i + 1))).then_ f) Φ Ψ := h
      cases e : fb s x <;> rw [e] at h3 <;> exact h3
    exact hs s x v cs σ H' L (xs.drop (i + 1)) p hy R' h2
  · have e : i = xs.length := by omega
    subst e
    refine .inl ⟨w.w.stops H ⟨L, R, hG _ _ _ p⟩, ?_⟩
    rw [List.drop_length] at h
    exact hd s σ H L R p h
/-- where a turn may leave the loop -/
theorem st_forC {xs : List α} {y : α → V → List Cell → Prop} (w : WkS J xs.length G (YX xs y)) {fb : S → α → Res ε (Ctl S ρ)} {f : Ctl S ρ → Res ε β} {s0 : S} (P : S → L2.St → List Cell → Prop) (R : Rel H L) (h : Out ((forR fb s0 xs).then_ f) Φ Ψ) (p0 : P s0 σ L)
    (hG : ∀ s σ L, P s σ L → G L)
    (hd : ∀ s σ H L, Rel H L → P s σ L → Out (f (.nx s)) Φ Ψ → D.nx σ H)
    (hs : (∀ s σ H L, Rel H L → P s σ L → Out (f (.nx s)) Φ Ψ → D.nx σ H) → ∀ s x v cs σ H L ys, P s σ L → y x v cs → Rel H (cs ++ L) → Out (fb s x) (fun c => Out ((match c with | .nx s' => forR fb s' ys | .bk s' => .ok (.nx s') | .rt r => .ok (.rt r)).then_ f) Φ Ψ) Ψ → g v σ H fun σ2 H2 => tb { D with nx := LoopP P fun s' => Out ((forR fb s' ys).then_ f) Φ Ψ, ct := LoopP P fun s' => Out ((forR fb s' ys).then_ f) Φ Ψ, bk := D.nx } σ2 H2) : ForJ g tb D σ J H := by
  refine ⟨fun i m σ H => m = xs.length - i ∧ i ≤ xs.length ∧ LoopP P (fun s => Out ((forR fb s (xs.drop i)).then_ f) Φ Ψ) σ H, ⟨_, rfl, Nat.zero_le _, s0, L, R, p0, h⟩, ?_⟩
  rintro i m σ H ⟨rfl, hi, s, L, R, p, h⟩
  by_cases hl : i < xs.length
  · refine .inr ⟨w.w.goes i H hl ⟨L, R, hG _ _ _ p⟩, LoopP P (fun s => Out ((forR fb s (xs.drop (i + 1))).then_ f) Φ Ψ), fun σ' H' hN => ⟨_, by omega, rfl, by omega, hN⟩, fun v H' yd => ?_⟩
    obtain ⟨cs, ⟨x, hx, hy⟩, R'⟩ := w.w.yields i H v H' hl ⟨L, R, hG _ _ _ p⟩ yd L R (hG _ _ _ p)
    rw [drop_cons hx] at h
    refine hs hd s x v cs σ H' L (xs.drop (i + 1)) p hy R' ?_
    have h3 : Out (((fb s x).then_ fun c => match c with | .nx s' => forR fb s' (xs.drop (i + 1)) | .bk s' => .ok (.nx s') | .rt r => .ok (.rt r)).then_ f) Φ Ψ := h
    cases e : fb s x <;> rw [e] at h3 <;> exact h3
  · have e : i = xs.length := by omega
    subst e
    refine .inl ⟨w.w.stops H ⟨L, R, hG _ _ _ p⟩, ?_⟩
    rw [List.drop_length] at h
    exact hd s σ H L R p h
/-! what is walked -/
abbrev yF [Fr α] : α → V → List Cell → Prop := fun x v cs => cs = [CF x v]
abbrev yS [Fr α] [Sc α] : α → V → List Cell → Prop := fun x v cs => v = Sc.val x ∧ cs = []
theorem wk_has [Fr α] {xs : List α} : WkS (Itl K a) xs.length (fun L => HasL K a xs L) (YX xs yF) := by
  refine ⟨⟨fun i H hi ⟨L, R, l⟩ => ?_, fun H ⟨L, R, l⟩ => ?_, fun i H v H' hi hg yd L R l => ?_⟩⟩
  · obtain ⟨vs, h1, h2⟩ := l H R
    exact (walk_list (xs := vs)).goes i H (by rw [← Paired.length h2]; exact hi) h1
  · obtain ⟨vs, h1, h2⟩ := l H R
    rw [Paired.length h2]
    exact (walk_list (xs := vs)).stops H h1
  · obtain ⟨vs, h1, h2⟩ := l H R
    obtain ⟨rfl, e⟩ := (walk_list (xs := vs)).yields i H v H' (by rw [← Paired.length h2]; exact hi) h1 yd
    obtain ⟨x, e1, e2⟩ := h2.get' e
    exact ⟨_, ⟨x, e1, rfl⟩, R.addC e2⟩
theorem wk_sc [Fr α] [Sc α] {xs : List α} : WkS (Itl K a) xs.length (fun L => HasL K a xs L) (YX xs yS) := by
  refine ⟨⟨fun i H hi hg => (wk_has (K := K)).w.goes i H hi hg, fun H hg => (wk_has (K := K)).w.stops H hg, fun i H v H' hi hg yd L R l => ?_⟩⟩
  obtain ⟨vs, h1, h2⟩ := l H R
  obtain ⟨rfl, e⟩ := (walk_list (xs := vs)).yields i H v H' (by rw [← Paired.length h2]; exact hi) h1 yd
  obtain ⟨x, e1, e2⟩ := h2.get' e
  exact ⟨[], ⟨x, e1, Sc.sc.mp e2, rfl⟩, R⟩
def rangeL (lo hi : Int) : List Int := (List.range (hi - lo).toNat).map fun (i : Nat) => lo + i
theorem rangeL_len {lo hi : Int} : (rangeL lo hi).length = (hi - lo).toNat := by simp [rangeL]
theorem wk_rng {lo : Int} {n : Nat} {xs : List Int} (e : xs = (List.range n).map fun (i : Nat) => lo + i) : WkS (Itr lo n) xs.length (fun _ => True) (YX xs yS) := by
  have hl : xs.length = n := by rw [e]; simp
  rw [hl]
  refine ⟨(walk_range (lo := lo) (n := n)).mono (fun _ _ => trivial) fun i H x H' hi _ y L R l => ?_⟩
  obtain ⟨rfl, y⟩ := y
  exact ⟨[], ⟨lo + i, by rw [e, List.getElem?_map, List.getElem?_range hi]; rfl, y, rfl⟩, R⟩
def rng1 (n : Int) : Res Empty (List Int) := Res.guard (-(2 ^ 62) ≤ n ∧ n < 2 ^ 62) (rangeL 0 n)
def rng2 (m n : Int) : Res Empty (List Int) := Res.guard (-(2 ^ 62) ≤ m ∧ m < 2 ^ 62 ∧ -(2 ^ 62) ≤ n ∧ n < 2 ^ 62) (rangeL m n)
variable {Rj : It → Hp → Prop} {δ : Type}
theorem st_rng1 {n : Int} {f : List Int → Res ε β} (h : Out ((rng1 n).bind f) Φ Ψ) (q : ∀ xs, WkS (Itr 0 n.toNat) xs.length (fun _ => True) (YX xs yS) → Out (f xs) Φ Ψ → Rj (Itr 0 n.toNat) H) : IRng1At Rj [V.int n] H := by
  obtain ⟨c, h⟩ := Out.g h
  exact ⟨n, rfl, c.1, c.2, q _ (wk_rng (by unfold rangeL; rw [Int.sub_zero])) h⟩
theorem st_rng2 {m n : Int} {f : List Int → Res ε β} (h : Out ((rng2 m n).bind f) Φ Ψ) (q : ∀ xs, WkS (Itr m (n - m).toNat) xs.length (fun _ => True) (YX xs yS) → Out (f xs) Φ Ψ → Rj (Itr m (n - m).toNat) H) : IRng2At Rj [V.int m, V.int n] H := by
  obtain ⟨c, h⟩ := Out.g h
  exact ⟨m, n, rfl, c, q _ (wk_rng rfl) h⟩
theorem st_iList [Fr α] {xs : List α} (R : Rel H L) (l : HasL K a xs L) (q : Rj (Itl K a) H) : IListAt K Rj (.ref a) H := by
  obtain ⟨vs, h1, h2⟩ := l H R
  exact ⟨a, rfl, ⟨vs, h1⟩, q⟩
def enumL (xs : List α) : List (T2 Int α) := (List.range xs.length).zipWith (fun (i : Nat) x => ⟨(i : Int), x⟩) xs
theorem wk_enumF [Fr α] {xs : List α} : WkS (Ite K a) (enumL xs).length (fun L => HasL K a xs L) (YX (enumL xs) yF) := by
  have hl : (enumL xs).length = xs.length := by simp [enumL]
  rw [hl]
  refine ⟨⟨fun i H hi ⟨L, R, l⟩ => ?_, fun H ⟨L, R, l⟩ => ?_, fun i H v H' hi hg yd L R l => ?_⟩⟩
  · obtain ⟨vs, h1, h2⟩ := l H R
    exact (walk_enum (xs := vs)).goes i H (by rw [← Paired.length h2]; exact hi) h1
  · obtain ⟨vs, h1, h2⟩ := l H R
    rw [Paired.length h2]
    exact (walk_enum (xs := vs)).stops H h1
  · obtain ⟨vs, h1, h2⟩ := l H R
    obtain ⟨T, x1, y1, rfl, hT, rfl, e1, e2⟩ := (walk_enum (xs := vs)).yields i H v H' (by rw [← Paired.length h2]; exact hi) h1 yd
    cases e1
    obtain ⟨x, e3, e4⟩ := h2.get' e2
    refine ⟨_, ⟨⟨(i : Int), x⟩, ?_, rfl⟩, (R.newTup hT).drop.addC ⟨T, _, _, rfl, upd_same, rfl, Fr.pers e4 (Pers.new hT)⟩⟩
    simp only [enumL, List.getElem?_zipWith, List.getElem?_range hi, e3]
theorem st_iEnum [Fr α] {xs : List α} (R : Rel H L) (l : HasL K a xs L) (q : Rj (Ite K a) H) : IEnumAt K Rj [V.ref a] H := by
  obtain ⟨vs, h1, h2⟩ := l H R
  exact ⟨a, vs, rfl, h1, q⟩
/-! comprehensions -/
def frsO [Fr δ] (acc : List δ) (vs : List V) : BO := factO (fun H => Frs H acc vs) fun h p => Frs.pers h p
/-- the list so far -/
def LcP [Fr δ] (L : List Cell) (Θ : List δ → Prop) (D : Addr) (H : Hp) : Prop := ∃ acc vs, Rel H ((D, raw (.lst vs)) :: (0, frsO acc vs) :: L) ∧ Θ acc
def LcAdd [Fr δ] (L : List Cell) (Θ : List δ → Prop) (D : Addr) (y : V) (H : Hp) : Prop := ∃ acc, H D = some (.lst acc) ∧ acc.length < sizeLine ∧ LcP L Θ D (upd H D (.lst (acc ++ [y])))
theorem go_lcadd [Fr δ] {Θ : List δ → Prop} {y : V} (q : LcAdd L Θ a y H) : LcAdd L Θ a y H := q
theorem go_lcp [Fr δ] {Θ : List δ → Prop} (q : LcP L Θ a H) : LcP L Θ a H := q
theorem lc_add [Fr δ] {cs F M M' : List Cell} {Θ : List δ → Prop} {d : Addr} {acc : List δ} {vs : List V} {x : δ} {v : V} (hl : acc.length < few) (h : Θ (acc ++ [x])) (w : Fr.is H x v) (R : Rel H M) (s : Sels ((d, raw (.lst vs)) :: (0, frsO acc vs) :: cs) M M') (dr : Drops M' F) : LcAdd (cs ++ F) Θ d v H := by
  have R1 : Rel H ((d, raw (.lst vs)) :: (0, frsO acc vs) :: (cs ++ F)) := R.fin s dr
  have f : Frs H acc vs := R1.atF (.there .here)
  refine ⟨vs, R1.raw0, by rw [← Paired.length f, PySem.sizeLine_eq]; unfold few at hl; omega, acc ++ [x], vs ++ [v], ?_, h⟩
  have p := persLst (ws' := vs ++ [v]) R1.raw0
  have R2 := R1.put0 (o' := .lst (vs ++ [v])) rfl
  have R3 := (R2.sel (.there .here)).drop
  have R4 := R3.addF (a := 0) (p := fun h p => Frs.pers h p) ((f.app (.cons w .nil)).pers p)
  exact R4.sel (.there .here)
theorem lc_skip [Fr δ] {cs F M M' : List Cell} {Θ : List δ → Prop} {d : Addr} {acc : List δ} {vs : List V} (h : Θ (acc ++ [])) (R : Rel H M) (s : Sels ((d, raw (.lst vs)) :: (0, frsO acc vs) :: cs) M M') (dr : Drops M' F) : LcP (cs ++ F) Θ d H := by
  rw [List.append_nil] at h
  exact ⟨acc, vs, R.fin s dr, h⟩
theorem st_lc [Fr δ] {xs : List α} {y : α → V → List Cell → Prop} (w : WkS J xs.length G (YX xs y)) {vs : List Nat} {fb : α → Res ε (Option δ)} {f : List δ → Res ε β} (R : Rel H L) (h : Out ((lcR fb [] xs).then_ f) Φ Ψ)
    (hG : ∀ c1 c2, G (c1 :: c2 :: L))
    (hs : ∀ x v cs acc us d H ys, y x v cs → Rel H (cs ++ (d, raw (.lst us)) :: (0, frsO acc us) :: L) → acc.length < few → Out (fb x) (fun o => Out ((lcR fb (acc ++ o.toList) ys).then_ f) Φ Ψ) Ψ → g v (wipe σ vs) H fun σ2 H2 => wipe σ2 vs = wipe σ vs ∧ tt σ2 H2 fun b H3 =>
      if b = true then te σ2 H3 (LcAdd L (fun acc => Out ((lcR fb acc ys).then_ f) Φ Ψ) d) else LcP L (fun acc => Out ((lcR fb acc ys).then_ f) Φ Ψ) d H3)
    (hd : ∀ d H acc, Rel H ((d, lsF acc) :: L) → Out (f acc) Φ Ψ → Q (.ref d) H) : LcJ g tt te vs σ Q J H := by
  intro d hD
  refine ⟨fun i m H => m = xs.length - i ∧ i ≤ xs.length ∧ LcP L (fun acc => Out ((lcR fb acc (xs.drop i)).then_ f) Φ Ψ) d H, ⟨_, rfl, Nat.zero_le _, [], [], (R.new hD |> fun R1 => (R1.addF (a := 0) (P := fun H => Frs H ([] : List δ) []) (p := fun h p => Frs.pers h p) .nil).sel (.there .here)), h⟩, ?_⟩
  rintro i m H ⟨rfl, hi, acc, us, R, h⟩
  by_cases hl : i < xs.length
  · refine .inr ⟨w.w.goes i H hl ⟨_, R, hG _ _⟩, LcP L (fun acc => Out ((lcR fb acc (xs.drop (i + 1))).then_ f) Φ Ψ) d, fun H' hN => ⟨_, by omega, rfl, by omega, hN⟩, fun v H' yd => ?_⟩
    obtain ⟨cs, ⟨x, hx, hy⟩, R'⟩ := w.w.yields i H v H' hl ⟨_, R, hG _ _⟩ yd _ R (hG _ _)
    rw [drop_cons hx] at h
    have h3 : Out ((if acc.length < few then (fb x).then_ fun o => lcR fb (acc ++ o.toList) (xs.drop (i + 1)) else .bad).then_ f) Φ Ψ := h
    by_cases hc : acc.length < few
    · rw [if_pos hc] at h3
      refine hs x v cs acc us d H' (xs.drop (i + 1)) hy R' hc ?_
      cases e : fb x <;> rw [e] at h3 <;> exact h3
    · rw [if_neg hc] at h3; exact h3.elim
  · have e : i = xs.length := by omega
    subst e
    refine .inl ⟨w.w.stops H ⟨_, R, hG _ _⟩, ?_⟩
    rw [List.drop_length] at h
    have f : Frs H acc us := R.atF (.there .here)
    have R2 : Rel H ((d, raw (.lst us)) :: L) := by
      have R3 := (R.sel (.there .here)).drop
      exact R3
    exact hd d H acc (R2.rawLs f) h
/-! while -/
theorem whl_go {fb : S → Res ε (Ctl S ρ)} {f : Ctl S ρ → Res ε β} {P : S → L2.St → List Cell → Prop} {n : Nat} (q : tb { D with nx := LoopP P fun s' => Out ((whileR fb n s').then_ f) Φ Ψ, ct := LoopP P fun s' => Out ((whileR fb n s').then_ f) Φ Ψ, bk := D.nx } σ H) :
    ∃ N : L2.St → Hp → Prop, (∀ σ' H', N σ' H' → ∃ m', m' < n + 1 ∧ LoopP P (fun s => Out ((whileR fb m' s).then_ f) Φ Ψ) σ' H') ∧ tb { D with nx := N, ct := N, bk := D.nx } σ H := ⟨_, fun _ _ z => ⟨n, Nat.lt_succ_self n, z⟩, q⟩
theorem st_while {c : TT} {fb : S → Res ε (Ctl S ρ)} {f : Ctl S ρ → Res ε β} {N : Nat} {s0 : S} (P : S → L2.St → List Cell → Prop) (R : Rel H L) (h : Out ((whileR fb N s0).then_ f) Φ Ψ) (p0 : P s0 σ L)
    (hs : ∀ n s σ H L, Rel H L → P s σ L → Out (fb s) (fun c => Out ((match c with | .nx s' => whileR fb n s' | .bk s' => .ok (.nx s') | .rt r => .ok (.rt r)).then_ f) Φ Ψ) Ψ →
      c σ H fun b H1 => if b = true then ∃ N : L2.St → Hp → Prop, (∀ σ' H', N σ' H' → ∃ m', m' < n + 1 ∧ LoopP P (fun s => Out ((whileR fb m' s).then_ f) Φ Ψ) σ' H') ∧ tb { D with nx := N, ct := N, bk := D.nx } σ H1 else D.nx σ H1) : tWhile c tb D σ H := by
  refine ⟨fun n σ H => LoopP P (fun s => Out ((whileR fb n s).then_ f) Φ Ψ) σ H, ⟨N, s0, L, R, p0, h⟩, ?_⟩
  rintro n σ H ⟨s, L, R, p, h⟩
  cases n with
  | zero => exact h.elim
  | succ n =>
    have h3 : Out (((fb s).then_ fun c => match c with | .nx s' => whileR fb n s' | .bk s' => .ok (.nx s') | .rt r => .ok (.rt r)).then_ f) Φ Ψ := h
    refine hs n s σ H L R p ?_
    cases e : fb s <;> rw [e] at h3 <;> exact h3
end
end Wn
namespace Wn
open PySem L2
def FAugAt (K : PySem.W.Frag) (tv : TE) (rd : V → V → Hp → VK → Prop) (f : Str) (D : Ends) (σ : L2.St) (x : V) (H1 : Hp) : Prop := ∃ a C dx fs v, x = .ref a ∧ H1 a = some (.ins C dx fs) ∧ Cls K C ∧ NoAttr K C f ∧ fs.lookup f = some v ∧
  tv σ H1 fun y H2 => rd v y H2 fun z H3 => ∃ dx' fs', H3 a = some (.ins C dx' fs') ∧ fs'.length < 1000 ∧ D.nx σ (upd H3 a (.ins C dx' (putF f z fs')))
theorem go_faug {K : PySem.W.Frag} {ta tv : TE} {rd : V → V → Hp → VK → Prop} {f : Str} {D : Ends} {σ : L2.St} {H : Hp} (q : ta σ H (FAugAt K tv rd f D σ)) : sFldAug K ta tv rd f D σ H := q
abbrev endsOf (Q : VK) : Ends := { nx := fun _ H' => Q .non H', rt := Q }
/-! ### Chip -/
abbrev cChip (K : PySem.W.Frag) : Addr := He.ga K "Chip"
def chipF (v0 v1 v2 v3 v4 v5 v6 v7 v8 v9 : V) : List (Str × V) := [("blocks", v0), ("pages", v1), ("most", v2), ("lasts", v3), ("stuff", v4), ("tried", v5), ("clearings", v6), ("broken", v7), ("left", v8), ("log", v9)]
abbrev TChip (K : PySem.W.Frag) : Prop := ClsF K (cChip K) ["blocks", "pages", "most", "lasts", "stuff", "tried", "clearings", "broken", "left", "log"]
structure ChipM where
  blocks : Int
  pages : Int
  most : Int
  lasts : (List (Option Int))
  stuff : (List (Option (T2 Int Int)))
  tried : (List Int)
  clearings : (List Int)
  broken : (List Bool)
  left : (Option Int)
  log : (List (T3 Str Int Bool))
structure ChipX where
  dx : Addr
  lasts : Addr
  stuff : Addr
  tried : Addr
  clearings : Addr
  broken : Addr
  log : Addr
def chipC (K : PySem.W.Frag) (p : Addr) (c : ChipM) (x : ChipX) : List Cell := [(p, raw (.ins (cChip K) x.dx (chipF (.int c.blocks) (.int c.pages) (.int c.most) (.ref x.lasts) (.ref x.stuff) (.ref x.tried) (.ref x.clearings) (.ref x.broken) (Sc.val c.left) (.ref x.log)))),
  (x.lasts, lsF c.lasts),
  (x.stuff, lsF c.stuff),
  (x.tried, lsF c.tried),
  (x.clearings, lsF c.clearings),
  (x.broken, lsF c.broken),
  (x.log, lsF c.log)]
def chipO (K : PySem.W.Frag) (p : Addr) (c : ChipM) (x : ChipX) : Cell := (p, objO (chipC K p c x))
section
variable {K : PySem.W.Frag} {H : Hp} {Q : VK} {D : Ends} {σ : L2.St} {L L' : List Cell} {p : Addr} {c : ChipM} {x : ChipX}
theorem getChip_blocks (T : TChip K) (R : Rel H L) (s : Sel (chipO K p c x) L L') (q : Q (.int c.blocks) H) : FldAt K "blocks" Q (.ref p) H := ⟨p, cChip K, x.dx, _, _, rfl, obj_raw R s .here, T.cls, T.na _ (by decide +kernel), by kernel_rfl, q⟩
theorem getChip_pages (T : TChip K) (R : Rel H L) (s : Sel (chipO K p c x) L L') (q : Q (.int c.pages) H) : FldAt K "pages" Q (.ref p) H := ⟨p, cChip K, x.dx, _, _, rfl, obj_raw R s .here, T.cls, T.na _ (by decide +kernel), by kernel_rfl, q⟩
theorem getChip_most (T : TChip K) (R : Rel H L) (s : Sel (chipO K p c x) L L') (q : Q (.int c.most) H) : FldAt K "most" Q (.ref p) H := ⟨p, cChip K, x.dx, _, _, rfl, obj_raw R s .here, T.cls, T.na _ (by decide +kernel), by kernel_rfl, q⟩
theorem getChip_lasts (T : TChip K) (R : Rel H L) (s : Sel (chipO K p c x) L L') (q : Q (.ref x.lasts) H) : FldAt K "lasts" Q (.ref p) H := ⟨p, cChip K, x.dx, _, _, rfl, obj_raw R s .here, T.cls, T.na _ (by decide +kernel), by kernel_rfl, q⟩
theorem getChip_stuff (T : TChip K) (R : Rel H L) (s : Sel (chipO K p c x) L L') (q : Q (.ref x.stuff) H) : FldAt K "stuff" Q (.ref p) H := ⟨p, cChip K, x.dx, _, _, rfl, obj_raw R s .here, T.cls, T.na _ (by decide +kernel), by kernel_rfl, q⟩
theorem getChip_tried (T : TChip K) (R : Rel H L) (s : Sel (chipO K p c x) L L') (q : Q (.ref x.tried) H) : FldAt K "tried" Q (.ref p) H := ⟨p, cChip K, x.dx, _, _, rfl, obj_raw R s .here, T.cls, T.na _ (by decide +kernel), by kernel_rfl, q⟩
theorem getChip_clearings (T : TChip K) (R : Rel H L) (s : Sel (chipO K p c x) L L') (q : Q (.ref x.clearings) H) : FldAt K "clearings" Q (.ref p) H := ⟨p, cChip K, x.dx, _, _, rfl, obj_raw R s .here, T.cls, T.na _ (by decide +kernel), by kernel_rfl, q⟩
theorem getChip_broken (T : TChip K) (R : Rel H L) (s : Sel (chipO K p c x) L L') (q : Q (.ref x.broken) H) : FldAt K "broken" Q (.ref p) H := ⟨p, cChip K, x.dx, _, _, rfl, obj_raw R s .here, T.cls, T.na _ (by decide +kernel), by kernel_rfl, q⟩
theorem getChip_left (T : TChip K) (R : Rel H L) (s : Sel (chipO K p c x) L L') (q : Q (Sc.val c.left) H) : FldAt K "left" Q (.ref p) H := ⟨p, cChip K, x.dx, _, _, rfl, obj_raw R s .here, T.cls, T.na _ (by decide +kernel), by kernel_rfl, q⟩
theorem getChip_log (T : TChip K) (R : Rel H L) (s : Sel (chipO K p c x) L L') (q : Q (.ref x.log) H) : FldAt K "log" Q (.ref p) H := ⟨p, cChip K, x.dx, _, _, rfl, obj_raw R s .here, T.cls, T.na _ (by decide +kernel), by kernel_rfl, q⟩
theorem setChip_blocks {y : Int} (T : TChip K) (R : Rel H L) (s : Sel (chipO K p c x) L L') (q : ∀ H', Rel H' (chipO K p { c with blocks := y } x :: L') → D.nx σ H') : SFldAt K "blocks" D σ (.int y) (.ref p) H := ⟨p, cChip K, x.dx, _, rfl, obj_raw R s .here, T.cls, T.na _ (by decide +kernel), (by show 10 < 1000; decide), q _ (obj_put R s rfl)⟩
theorem augChipAdd_blocks {n : Int} {tv : TE} (T : TChip K) (R : Rel H L) (s : Sel (chipO K p c x) L L') (hv : ∀ Q : VK, Q (.int n) H → tv σ H Q) (q : ∀ H', Rel H' (chipO K p { c with blocks := c.blocks + n } x :: L') → D.nx σ H') : FAugAt K tv rAdd "blocks" D σ (.ref p) H := ⟨p, cChip K, x.dx, _, _, rfl, obj_raw R s .here, T.cls, T.na _ (by decide +kernel), by kernel_rfl, hv _ ⟨_, n, rfl, rfl, x.dx, _, obj_raw R s .here, (by show 10 < 1000; decide), q _ (obj_put R s rfl)⟩⟩
theorem augChipSub_blocks {n : Int} {tv : TE} (T : TChip K) (R : Rel H L) (s : Sel (chipO K p c x) L L') (hv : ∀ Q : VK, Q (.int n) H → tv σ H Q) (q : ∀ H', Rel H' (chipO K p { c with blocks := c.blocks - n } x :: L') → D.nx σ H') : FAugAt K tv rSub "blocks" D σ (.ref p) H := ⟨p, cChip K, x.dx, _, _, rfl, obj_raw R s .here, T.cls, T.na _ (by decide +kernel), by kernel_rfl, hv _ ⟨_, n, rfl, rfl, x.dx, _, obj_raw R s .here, (by show 10 < 1000; decide), q _ (obj_put R s rfl)⟩⟩
theorem setChip_pages {y : Int} (T : TChip K) (R : Rel H L) (s : Sel (chipO K p c x) L L') (q : ∀ H', Rel H' (chipO K p { c with pages := y } x :: L') → D.nx σ H') : SFldAt K "pages" D σ (.int y) (.ref p) H := ⟨p, cChip K, x.dx, _, rfl, obj_raw R s .here, T.cls, T.na _ (by decide +kernel), (by show 10 < 1000; decide), q _ (obj_put R s rfl)⟩
theorem augChipAdd_pages {n : Int} {tv : TE} (T : TChip K) (R : Rel H L) (s : Sel (chipO K p c x) L L') (hv : ∀ Q : VK, Q (.int n) H → tv σ H Q) (q : ∀ H', Rel H' (chipO K p { c with pages := c.pages + n } x :: L') → D.nx σ H') : FAugAt K tv rAdd "pages" D σ (.ref p) H := ⟨p, cChip K, x.dx, _, _, rfl, obj_raw R s .here, T.cls, T.na _ (by decide +kernel), by kernel_rfl, hv _ ⟨_, n, rfl, rfl, x.dx, _, obj_raw R s .here, (by show 10 < 1000; decide), q _ (obj_put R s rfl)⟩⟩
theorem augChipSub_pages {n : Int} {tv : TE} (T : TChip K) (R : Rel H L) (s : Sel (chipO K p c x) L L') (hv : ∀ Q : VK, Q (.int n) H → tv σ H Q) (q : ∀ H', Rel H' (chipO K p { c with pages := c.pages - n } x :: L') → D.nx σ H') : FAugAt K tv rSub "pages" D σ (.ref p) H := ⟨p, cChip K, x.dx, _, _, rfl, obj_raw R s .here, T.cls, T.na _ (by decide +kernel), by kernel_rfl, hv _ ⟨_, n, rfl, rfl, x.dx, _, obj_raw R s .here, (by show 10 < 1000; decide), q _ (obj_put R s rfl)⟩⟩
theorem setChip_most {y : Int} (T : TChip K) (R : Rel H L) (s : Sel (chipO K p c x) L L') (q : ∀ H', Rel H' (chipO K p { c with most := y } x :: L') → D.nx σ H') : SFldAt K "most" D σ (.int y) (.ref p) H := ⟨p, cChip K, x.dx, _, rfl, obj_raw R s .here, T.cls, T.na _ (by decide +kernel), (by show 10 < 1000; decide), q _ (obj_put R s rfl)⟩
theorem augChipAdd_most {n : Int} {tv : TE} (T : TChip K) (R : Rel H L) (s : Sel (chipO K p c x) L L') (hv : ∀ Q : VK, Q (.int n) H → tv σ H Q) (q : ∀ H', Rel H' (chipO K p { c with most := c.most + n } x :: L') → D.nx σ H') : FAugAt K tv rAdd "most" D σ (.ref p) H := ⟨p, cChip K, x.dx, _, _, rfl, obj_raw R s .here, T.cls, T.na _ (by decide +kernel), by kernel_rfl, hv _ ⟨_, n, rfl, rfl, x.dx, _, obj_raw R s .here, (by show 10 < 1000; decide), q _ (obj_put R s rfl)⟩⟩
theorem augChipSub_most {n : Int} {tv : TE} (T : TChip K) (R : Rel H L) (s : Sel (chipO K p c x) L L') (hv : ∀ Q : VK, Q (.int n) H → tv σ H Q) (q : ∀ H', Rel H' (chipO K p { c with most := c.most - n } x :: L') → D.nx σ H') : FAugAt K tv rSub "most" D σ (.ref p) H := ⟨p, cChip K, x.dx, _, _, rfl, obj_raw R s .here, T.cls, T.na _ (by decide +kernel), by kernel_rfl, hv _ ⟨_, n, rfl, rfl, x.dx, _, obj_raw R s .here, (by show 10 < 1000; decide), q _ (obj_put R s rfl)⟩⟩
theorem setChip_left {y : (Option Int)} (T : TChip K) (R : Rel H L) (s : Sel (chipO K p c x) L L') (q : ∀ H', Rel H' (chipO K p { c with left := y } x :: L') → D.nx σ H') : SFldAt K "left" D σ (Sc.val y) (.ref p) H := ⟨p, cChip K, x.dx, _, rfl, obj_raw R s .here, T.cls, T.na _ (by decide +kernel), (by show 10 < 1000; decide), q _ (obj_put R s rfl)⟩
theorem augChipAdd_left {n m : Int} {tv : TE} (T : TChip K) (R : Rel H L) (s : Sel (chipO K p c x) L L') (hm : c.left = some m) (hv : ∀ Q : VK, Q (.int n) H → tv σ H Q) (q : ∀ H', Rel H' (chipO K p { c with left := some (m + n) } x :: L') → D.nx σ H') : FAugAt K tv rAdd "left" D σ (.ref p) H := ⟨p, cChip K, x.dx, _, .int m, rfl, obj_raw R s .here, T.cls, T.na _ (by decide +kernel), (by rw [hm]; kernel_rfl), hv _ ⟨m, n, rfl, rfl, x.dx, _, obj_raw R s .here, (by show 10 < 1000; decide), q _ (obj_put R s rfl)⟩⟩
theorem augChipSub_left {n m : Int} {tv : TE} (T : TChip K) (R : Rel H L) (s : Sel (chipO K p c x) L L') (hm : c.left = some m) (hv : ∀ Q : VK, Q (.int n) H → tv σ H Q) (q : ∀ H', Rel H' (chipO K p { c with left := some (m - n) } x :: L') → D.nx σ H') : FAugAt K tv rSub "left" D σ (.ref p) H := ⟨p, cChip K, x.dx, _, .int m, rfl, obj_raw R s .here, T.cls, T.na _ (by decide +kernel), (by rw [hm]; kernel_rfl), hv _ ⟨m, n, rfl, rfl, x.dx, _, obj_raw R s .here, (by show 10 < 1000; decide), q _ (obj_put R s rfl)⟩⟩
theorem mutChip_lasts (s : Sel (chipO K p c x) L L') : MutL x.lasts c.lasts L (fun ys => chipO K p { c with lasts := ys } x :: L') := MutL.obj (A := [_]) s fun ys => rfl
theorem hasChip_lasts (s : Sel (chipO K p c x) L L') : HasL K x.lasts c.lasts L := (mutChip_lasts s).has
theorem mutChip_stuff (s : Sel (chipO K p c x) L L') : MutL x.stuff c.stuff L (fun ys => chipO K p { c with stuff := ys } x :: L') := MutL.obj (A := [_, _]) s fun ys => rfl
theorem hasChip_stuff (s : Sel (chipO K p c x) L L') : HasL K x.stuff c.stuff L := (mutChip_stuff s).has
theorem mutChip_tried (s : Sel (chipO K p c x) L L') : MutL x.tried c.tried L (fun ys => chipO K p { c with tried := ys } x :: L') := MutL.obj (A := [_, _, _]) s fun ys => rfl
theorem hasChip_tried (s : Sel (chipO K p c x) L L') : HasL K x.tried c.tried L := (mutChip_tried s).has
theorem mutChip_clearings (s : Sel (chipO K p c x) L L') : MutL x.clearings c.clearings L (fun ys => chipO K p { c with clearings := ys } x :: L') := MutL.obj (A := [_, _, _, _]) s fun ys => rfl
theorem hasChip_clearings (s : Sel (chipO K p c x) L L') : HasL K x.clearings c.clearings L := (mutChip_clearings s).has
theorem mutChip_broken (s : Sel (chipO K p c x) L L') : MutL x.broken c.broken L (fun ys => chipO K p { c with broken := ys } x :: L') := MutL.obj (A := [_, _, _, _, _]) s fun ys => rfl
theorem hasChip_broken (s : Sel (chipO K p c x) L L') : HasL K x.broken c.broken L := (mutChip_broken s).has
theorem mutChip_log (s : Sel (chipO K p c x) L L') : MutL x.log c.log L (fun ys => chipO K p { c with log := ys } x :: L') := MutL.obj (A := [_, _, _, _, _, _]) s fun ys => rfl
theorem hasChip_log (s : Sel (chipO K p c x) L L') : HasL K x.log c.log L := (mutChip_log s).has
theorem methChip {m : Str} {sp : Sp} {dvs : List V} {E : XK} {tar : TA} (hm : ∀ v0 v1 v2 v3 v4 v5 v6 v7 v8 v9, (chipF v0 v1 v2 v3 v4 v5 v6 v7 v8 v9).lookup m = none) (R : Rel H L) (s : Sel (chipO K p c x) L L') (q : tar σ H fun vs H2 => sp (.ref p :: (vs ++ dvs)) H2 Q E) : MethAt (cChip K) m sp dvs E tar σ Q (.ref p) H := meth_at (obj_raw R s .here) (hm ..) q
end
/-! ### Book -/
abbrev cBook (K : PySem.W.Frag) : Addr := He.ga K "Book"
def bookF (v0 v1 v2 v3 v4 v5 v6 v7 : V) : List (Str × V) := [("blocks", v0), ("pages", v1), ("where", v2), ("names", v3), ("live", v4), ("filled", v5), ("born", v6), ("stamp", v7)]
abbrev TBook (K : PySem.W.Frag) : Prop := ClsF K (cBook K) ["blocks", "pages", "where", "names", "live", "filled", "born", "stamp"]
structure BookM where
  blocks : Int
  pages : Int
  whr : (List (Int × Int))
  names : (List (Option Int))
  live : (List Int)
  filled : (List Int)
  born : (List Int)
  stamp : Int
structure BookX where
  dx : Addr
  whr : Addr
  names : Addr
  live : Addr
  filled : Addr
  born : Addr
def bookC (K : PySem.W.Frag) (p : Addr) (c : BookM) (x : BookX) : List Cell := [(p, raw (.ins (cBook K) x.dx (bookF (.int c.blocks) (.int c.pages) (.ref x.whr) (.ref x.names) (.ref x.live) (.ref x.filled) (.ref x.born) (.int c.stamp)))),
  (x.whr, dcF c.whr),
  (x.names, lsF c.names),
  (x.live, lsF c.live),
  (x.filled, lsF c.filled),
  (x.born, lsF c.born)]
def bookO (K : PySem.W.Frag) (p : Addr) (c : BookM) (x : BookX) : Cell := (p, objO (bookC K p c x))
section
variable {K : PySem.W.Frag} {H : Hp} {Q : VK} {D : Ends} {σ : L2.St} {L L' : List Cell} {p : Addr} {c : BookM} {x : BookX}
theorem getBook_blocks (T : TBook K) (R : Rel H L) (s : Sel (bookO K p c x) L L') (q : Q (.int c.blocks) H) : FldAt K "blocks" Q (.ref p) H := ⟨p, cBook K, x.dx, _, _, rfl, obj_raw R s .here, T.cls, T.na _ (by decide +kernel), by kernel_rfl, q⟩
theorem getBook_pages (T : TBook K) (R : Rel H L) (s : Sel (bookO K p c x) L L') (q : Q (.int c.pages) H) : FldAt K "pages" Q (.ref p) H := ⟨p, cBook K, x.dx, _, _, rfl, obj_raw R s .here, T.cls, T.na _ (by decide +kernel), by kernel_rfl, q⟩
theorem getBook_where (T : TBook K) (R : Rel H L) (s : Sel (bookO K p c x) L L') (q : Q (.ref x.whr) H) : FldAt K "where" Q (.ref p) H := ⟨p, cBook K, x.dx, _, _, rfl, obj_raw R s .here, T.cls, T.na _ (by decide +kernel), by kernel_rfl, q⟩
theorem getBook_names (T : TBook K) (R : Rel H L) (s : Sel (bookO K p c x) L L') (q : Q (.ref x.names) H) : FldAt K "names" Q (.ref p) H := ⟨p, cBook K, x.dx, _, _, rfl, obj_raw R s .here, T.cls, T.na _ (by decide +kernel), by kernel_rfl, q⟩
theorem getBook_live (T : TBook K) (R : Rel H L) (s : Sel (bookO K p c x) L L') (q : Q (.ref x.live) H) : FldAt K "live" Q (.ref p) H := ⟨p, cBook K, x.dx, _, _, rfl, obj_raw R s .here, T.cls, T.na _ (by decide +kernel), by kernel_rfl, q⟩
theorem getBook_filled (T : TBook K) (R : Rel H L) (s : Sel (bookO K p c x) L L') (q : Q (.ref x.filled) H) : FldAt K "filled" Q (.ref p) H := ⟨p, cBook K, x.dx, _, _, rfl, obj_raw R s .here, T.cls, T.na _ (by decide +kernel), by kernel_rfl, q⟩
theorem getBook_born (T : TBook K) (R : Rel H L) (s : Sel (bookO K p c x) L L') (q : Q (.ref x.born) H) : FldAt K "born" Q (.ref p) H := ⟨p, cBook K, x.dx, _, _, rfl, obj_raw R s .here, T.cls, T.na _ (by decide +kernel), by kernel_rfl, q⟩
theorem getBook_stamp (T : TBook K) (R : Rel H L) (s : Sel (bookO K p c x) L L') (q : Q (.int c.stamp) H) : FldAt K "stamp" Q (.ref p) H := ⟨p, cBook K, x.dx, _, _, rfl, obj_raw R s .here, T.cls, T.na _ (by decide +kernel), by kernel_rfl, q⟩
theorem setBook_blocks {y : Int} (T : TBook K) (R : Rel H L) (s : Sel (bookO K p c x) L L') (q : ∀ H', Rel H' (bookO K p { c with blocks := y } x :: L') → D.nx σ H') : SFldAt K "blocks" D σ (.int y) (.ref p) H := ⟨p, cBook K, x.dx, _, rfl, obj_raw R s .here, T.cls, T.na _ (by decide +kernel), (by show 8 < 1000; decide), q _ (obj_put R s rfl)⟩
theorem augBookAdd_blocks {n : Int} {tv : TE} (T : TBook K) (R : Rel H L) (s : Sel (bookO K p c x) L L') (hv : ∀ Q : VK, Q (.int n) H → tv σ H Q) (q : ∀ H', Rel H' (bookO K p { c with blocks := c.blocks + n } x :: L') → D.nx σ H') : FAugAt K tv rAdd "blocks" D σ (.ref p) H := ⟨p, cBook K, x.dx, _, _, rfl, obj_raw R s .here, T.cls, T.na _ (by decide +kernel), by kernel_rfl, hv _ ⟨_, n, rfl, rfl, x.dx, _, obj_raw R s .here, (by show 8 < 1000; decide), q _ (obj_put R s rfl)⟩⟩
theorem augBookSub_blocks {n : Int} {tv : TE} (T : TBook K) (R : Rel H L) (s : Sel (bookO K p c x) L L') (hv : ∀ Q : VK, Q (.int n) H → tv σ H Q) (q : ∀ H', Rel H' (bookO K p { c with blocks := c.blocks - n } x :: L') → D.nx σ H') : FAugAt K tv rSub "blocks" D σ (.ref p) H := ⟨p, cBook K, x.dx, _, _, rfl, obj_raw R s .here, T.cls, T.na _ (by decide +kernel), by kernel_rfl, hv _ ⟨_, n, rfl, rfl, x.dx, _, obj_raw R s .here, (by show 8 < 1000; decide), q _ (obj_put R s rfl)⟩⟩
theorem setBook_pages {y : Int} (T : TBook K) (R : Rel H L) (s : Sel (bookO K p c x) L L') (q : ∀ H', Rel H' (bookO K p { c with pages := y } x :: L') → D.nx σ H') : SFldAt K "pages" D σ (.int y) (.ref p) H := ⟨p, cBook K, x.dx, _, rfl, obj_raw R s .here, T.cls, T.na _ (by decide +kernel), (by show 8 < 1000; decide), q _ (obj_put R s rfl)⟩
theorem augBookAdd_pages {n : Int} {tv : TE} (T : TBook K) (R : Rel H L) (s : Sel (bookO K p c x) L L') (hv : ∀ Q : VK, Q (.int n) H → tv σ H Q) (q : ∀ H', Rel H' (bookO K p { c with pages := c.pages + n } x :: L') → D.nx σ H') : FAugAt K tv rAdd "pages" D σ (.ref p) H := ⟨p, cBook K, x.dx, _, _, rfl, obj_raw R s .here, T.cls, T.na _ (by decide +kernel), by kernel_rfl, hv _ ⟨_, n, rfl, rfl, x.dx, _, obj_raw R s .here, (by show 8 < 1000; decide), q _ (obj_put R s rfl)⟩⟩
theorem augBookSub_pages {n : Int} {tv : TE} (T : TBook K) (R : Rel H L) (s : Sel (bookO K p c x) L L') (hv : ∀ Q : VK, Q (.int n) H → tv σ H Q) (q : ∀ H', Rel H' (bookO K p { c with pages := c.pages - n } x :: L') → D.nx σ H') : FAugAt K tv rSub "pages" D σ (.ref p) H := ⟨p, cBook K, x.dx, _, _, rfl, obj_raw R s .here, T.cls, T.na _ (by decide +kernel), by kernel_rfl, hv _ ⟨_, n, rfl, rfl, x.dx, _, obj_raw R s .here, (by show 8 < 1000; decide), q _ (obj_put R s rfl)⟩⟩
theorem setBook_stamp {y : Int} (T : TBook K) (R : Rel H L) (s : Sel (bookO K p c x) L L') (q : ∀ H', Rel H' (bookO K p { c with stamp := y } x :: L') → D.nx σ H') : SFldAt K "stamp" D σ (.int y) (.ref p) H := ⟨p, cBook K, x.dx, _, rfl, obj_raw R s .here, T.cls, T.na _ (by decide +kernel), (by show 8 < 1000; decide), q _ (obj_put R s rfl)⟩
theorem augBookAdd_stamp {n : Int} {tv : TE} (T : TBook K) (R : Rel H L) (s : Sel (bookO K p c x) L L') (hv : ∀ Q : VK, Q (.int n) H → tv σ H Q) (q : ∀ H', Rel H' (bookO K p { c with stamp := c.stamp + n } x :: L') → D.nx σ H') : FAugAt K tv rAdd "stamp" D σ (.ref p) H := ⟨p, cBook K, x.dx, _, _, rfl, obj_raw R s .here, T.cls, T.na _ (by decide +kernel), by kernel_rfl, hv _ ⟨_, n, rfl, rfl, x.dx, _, obj_raw R s .here, (by show 8 < 1000; decide), q _ (obj_put R s rfl)⟩⟩
theorem augBookSub_stamp {n : Int} {tv : TE} (T : TBook K) (R : Rel H L) (s : Sel (bookO K p c x) L L') (hv : ∀ Q : VK, Q (.int n) H → tv σ H Q) (q : ∀ H', Rel H' (bookO K p { c with stamp := c.stamp - n } x :: L') → D.nx σ H') : FAugAt K tv rSub "stamp" D σ (.ref p) H := ⟨p, cBook K, x.dx, _, _, rfl, obj_raw R s .here, T.cls, T.na _ (by decide +kernel), by kernel_rfl, hv _ ⟨_, n, rfl, rfl, x.dx, _, obj_raw R s .here, (by show 8 < 1000; decide), q _ (obj_put R s rfl)⟩⟩
theorem mutBook_where (s : Sel (bookO K p c x) L L') : MutD x.whr c.whr L (fun ys => bookO K p { c with whr := ys } x :: L') := MutD.obj (A := [_]) s fun ys => rfl
theorem hasBook_where (s : Sel (bookO K p c x) L L') : HasD x.whr c.whr L := (mutBook_where s).has
theorem mutBook_names (s : Sel (bookO K p c x) L L') : MutL x.names c.names L (fun ys => bookO K p { c with names := ys } x :: L') := MutL.obj (A := [_, _]) s fun ys => rfl
theorem hasBook_names (s : Sel (bookO K p c x) L L') : HasL K x.names c.names L := (mutBook_names s).has
theorem mutBook_live (s : Sel (bookO K p c x) L L') : MutL x.live c.live L (fun ys => bookO K p { c with live := ys } x :: L') := MutL.obj (A := [_, _, _]) s fun ys => rfl
theorem hasBook_live (s : Sel (bookO K p c x) L L') : HasL K x.live c.live L := (mutBook_live s).has
theorem mutBook_filled (s : Sel (bookO K p c x) L L') : MutL x.filled c.filled L (fun ys => bookO K p { c with filled := ys } x :: L') := MutL.obj (A := [_, _, _, _]) s fun ys => rfl
theorem hasBook_filled (s : Sel (bookO K p c x) L L') : HasL K x.filled c.filled L := (mutBook_filled s).has
theorem mutBook_born (s : Sel (bookO K p c x) L L') : MutL x.born c.born L (fun ys => bookO K p { c with born := ys } x :: L') := MutL.obj (A := [_, _, _, _, _]) s fun ys => rfl
theorem hasBook_born (s : Sel (bookO K p c x) L L') : HasL K x.born c.born L := (mutBook_born s).has
theorem methBook {m : Str} {sp : Sp} {dvs : List V} {E : XK} {tar : TA} (hm : ∀ v0 v1 v2 v3 v4 v5 v6 v7, (bookF v0 v1 v2 v3 v4 v5 v6 v7).lookup m = none) (R : Rel H L) (s : Sel (bookO K p c x) L L') (q : tar σ H fun vs H2 => sp (.ref p :: (vs ++ dvs)) H2 Q E) : MethAt (cBook K) m sp dvs E tar σ Q (.ref p) H := meth_at (obj_raw R s .here) (hm ..) q
end
/-! ### Terms -/
abbrev cTerms (K : PySem.W.Frag) : Addr := He.ga K "Terms"
def termsF (v0 v1 v2 v3 v4 v5 : V) : List (Str × V) := [("blocks", v0), ("pages", v1), ("sheets", v2), ("share", v3), ("ill", v4), ("spread", v5)]
abbrev TTerms (K : PySem.W.Frag) : Prop := ClsF K (cTerms K) ["blocks", "pages", "sheets", "share", "ill", "spread"]
structure TermsM where
  blocks : Int
  pages : Int
  sheets : Int
  share : Int
  ill : Int
  spread : Int
structure TermsX where
  dx : Addr
def termsC (K : PySem.W.Frag) (p : Addr) (c : TermsM) (x : TermsX) : List Cell := [(p, raw (.ins (cTerms K) x.dx (termsF (.int c.blocks) (.int c.pages) (.int c.sheets) (.int c.share) (.int c.ill) (.int c.spread))))]
def termsO (K : PySem.W.Frag) (p : Addr) (c : TermsM) (x : TermsX) : Cell := (p, objO (termsC K p c x))
section
variable {K : PySem.W.Frag} {H : Hp} {Q : VK} {D : Ends} {σ : L2.St} {L L' : List Cell} {p : Addr} {c : TermsM} {x : TermsX}
theorem getTerms_blocks (T : TTerms K) (R : Rel H L) (s : Sel (termsO K p c x) L L') (q : Q (.int c.blocks) H) : FldAt K "blocks" Q (.ref p) H := ⟨p, cTerms K, x.dx, _, _, rfl, obj_raw R s .here, T.cls, T.na _ (by decide +kernel), by kernel_rfl, q⟩
theorem getTerms_pages (T : TTerms K) (R : Rel H L) (s : Sel (termsO K p c x) L L') (q : Q (.int c.pages) H) : FldAt K "pages" Q (.ref p) H := ⟨p, cTerms K, x.dx, _, _, rfl, obj_raw R s .here, T.cls, T.na _ (by decide +kernel), by kernel_rfl, q⟩
theorem getTerms_sheets (T : TTerms K) (R : Rel H L) (s : Sel (termsO K p c x) L L') (q : Q (.int c.sheets) H) : FldAt K "sheets" Q (.ref p) H := ⟨p, cTerms K, x.dx, _, _, rfl, obj_raw R s .here, T.cls, T.na _ (by decide +kernel), by kernel_rfl, q⟩
theorem getTerms_share (T : TTerms K) (R : Rel H L) (s : Sel (termsO K p c x) L L') (q : Q (.int c.share) H) : FldAt K "share" Q (.ref p) H := ⟨p, cTerms K, x.dx, _, _, rfl, obj_raw R s .here, T.cls, T.na _ (by decide +kernel), by kernel_rfl, q⟩
theorem getTerms_ill (T : TTerms K) (R : Rel H L) (s : Sel (termsO K p c x) L L') (q : Q (.int c.ill) H) : FldAt K "ill" Q (.ref p) H := ⟨p, cTerms K, x.dx, _, _, rfl, obj_raw R s .here, T.cls, T.na _ (by decide +kernel), by kernel_rfl, q⟩
theorem getTerms_spread (T : TTerms K) (R : Rel H L) (s : Sel (termsO K p c x) L L') (q : Q (.int c.spread) H) : FldAt K "spread" Q (.ref p) H := ⟨p, cTerms K, x.dx, _, _, rfl, obj_raw R s .here, T.cls, T.na _ (by decide +kernel), by kernel_rfl, q⟩
theorem setTerms_blocks {y : Int} (T : TTerms K) (R : Rel H L) (s : Sel (termsO K p c x) L L') (q : ∀ H', Rel H' (termsO K p { c with blocks := y } x :: L') → D.nx σ H') : SFldAt K "blocks" D σ (.int y) (.ref p) H := ⟨p, cTerms K, x.dx, _, rfl, obj_raw R s .here, T.cls, T.na _ (by decide +kernel), (by show 6 < 1000; decide), q _ (obj_put R s rfl)⟩
theorem augTermsAdd_blocks {n : Int} {tv : TE} (T : TTerms K) (R : Rel H L) (s : Sel (termsO K p c x) L L') (hv : ∀ Q : VK, Q (.int n) H → tv σ H Q) (q : ∀ H', Rel H' (termsO K p { c with blocks := c.blocks + n } x :: L') → D.nx σ H') : FAugAt K tv rAdd "blocks" D σ (.ref p) H := ⟨p, cTerms K, x.dx, _, _, rfl, obj_raw R s .here, T.cls, T.na _ (by decide +kernel), by kernel_rfl, hv _ ⟨_, n, rfl, rfl, x.dx, _, obj_raw R s .here, (by show 6 < 1000; decide), q _ (obj_put R s rfl)⟩⟩
theorem augTermsSub_blocks {n : Int} {tv : TE} (T : TTerms K) (R : Rel H L) (s : Sel (termsO K p c x) L L') (hv : ∀ Q : VK, Q (.int n) H → tv σ H Q) (q : ∀ H', Rel H' (termsO K p { c with blocks := c.blocks - n } x :: L') → D.nx σ H') : FAugAt K tv rSub "blocks" D σ (.ref p) H := ⟨p, cTerms K, x.dx, _, _, rfl, obj_raw R s .here, T.cls, T.na _ (by decide +kernel), by kernel_rfl, hv _ ⟨_, n, rfl, rfl, x.dx, _, obj_raw R s .here, (by show 6 < 1000; decide), q _ (obj_put R s rfl)⟩⟩
theorem setTerms_pages {y : Int} (T : TTerms K) (R : Rel H L) (s : Sel (termsO K p c x) L L') (q : ∀ H', Rel H' (termsO K p { c with pages := y } x :: L') → D.nx σ H') : SFldAt K "pages" D σ (.int y) (.ref p) H := ⟨p, cTerms K, x.dx, _, rfl, obj_raw R s .here, T.cls, T.na _ (by decide +kernel), (by show 6 < 1000; decide), q _ (obj_put R s rfl)⟩
theorem augTermsAdd_pages {n : Int} {tv : TE} (T : TTerms K) (R : Rel H L) (s : Sel (termsO K p c x) L L') (hv : ∀ Q : VK, Q (.int n) H → tv σ H Q) (q : ∀ H', Rel H' (termsO K p { c with pages := c.pages + n } x :: L') → D.nx σ H') : FAugAt K tv rAdd "pages" D σ (.ref p) H := ⟨p, cTerms K, x.dx, _, _, rfl, obj_raw R s .here, T.cls, T.na _ (by decide +kernel), by kernel_rfl, hv _ ⟨_, n, rfl, rfl, x.dx, _, obj_raw R s .here, (by show 6 < 1000; decide), q _ (obj_put R s rfl)⟩⟩
theorem augTermsSub_pages {n : Int} {tv : TE} (T : TTerms K) (R : Rel H L) (s : Sel (termsO K p c x) L L') (hv : ∀ Q : VK, Q (.int n) H → tv σ H Q) (q : ∀ H', Rel H' (termsO K p { c with pages := c.pages - n } x :: L') → D.nx σ H') : FAugAt K tv rSub "pages" D σ (.ref p) H := ⟨p, cTerms K, x.dx, _, _, rfl, obj_raw R s .here, T.cls, T.na _ (by decide +kernel), by kernel_rfl, hv _ ⟨_, n, rfl, rfl, x.dx, _, obj_raw R s .here, (by show 6 < 1000; decide), q _ (obj_put R s rfl)⟩⟩
theorem setTerms_sheets {y : Int} (T : TTerms K) (R : Rel H L) (s : Sel (termsO K p c x) L L') (q : ∀ H', Rel H' (termsO K p { c with sheets := y } x :: L') → D.nx σ H') : SFldAt K "sheets" D σ (.int y) (.ref p) H := ⟨p, cTerms K, x.dx, _, rfl, obj_raw R s .here, T.cls, T.na _ (by decide +kernel), (by show 6 < 1000; decide), q _ (obj_put R s rfl)⟩
theorem augTermsAdd_sheets {n : Int} {tv : TE} (T : TTerms K) (R : Rel H L) (s : Sel (termsO K p c x) L L') (hv : ∀ Q : VK, Q (.int n) H → tv σ H Q) (q : ∀ H', Rel H' (termsO K p { c with sheets := c.sheets + n } x :: L') → D.nx σ H') : FAugAt K tv rAdd "sheets" D σ (.ref p) H := ⟨p, cTerms K, x.dx, _, _, rfl, obj_raw R s .here, T.cls, T.na _ (by decide +kernel), by kernel_rfl, hv _ ⟨_, n, rfl, rfl, x.dx, _, obj_raw R s .here, (by show 6 < 1000; decide), q _ (obj_put R s rfl)⟩⟩
theorem augTermsSub_sheets {n : Int} {tv : TE} (T : TTerms K) (R : Rel H L) (s : Sel (termsO K p c x) L L') (hv : ∀ Q : VK, Q (.int n) H → tv σ H Q) (q : ∀ H', Rel H' (termsO K p { c with sheets := c.sheets - n } x :: L') → D.nx σ H') : FAugAt K tv rSub "sheets" D σ (.ref p) H := ⟨p, cTerms K, x.dx, _, _, rfl, obj_raw R s .here, T.cls, T.na _ (by decide +kernel), by kernel_rfl, hv _ ⟨_, n, rfl, rfl, x.dx, _, obj_raw R s .here, (by show 6 < 1000; decide), q _ (obj_put R s rfl)⟩⟩
theorem setTerms_share {y : Int} (T : TTerms K) (R : Rel H L) (s : Sel (termsO K p c x) L L') (q : ∀ H', Rel H' (termsO K p { c with share := y } x :: L') → D.nx σ H') : SFldAt K "share" D σ (.int y) (.ref p) H := ⟨p, cTerms K, x.dx, _, rfl, obj_raw R s .here, T.cls, T.na _ (by decide +kernel), (by show 6 < 1000; decide), q _ (obj_put R s rfl)⟩
theorem augTermsAdd_share {n : Int} {tv : TE} (T : TTerms K) (R : Rel H L) (s : Sel (termsO K p c x) L L') (hv : ∀ Q : VK, Q (.int n) H → tv σ H Q) (q : ∀ H', Rel H' (termsO K p { c with share := c.share + n } x :: L') → D.nx σ H') : FAugAt K tv rAdd "share" D σ (.ref p) H := ⟨p, cTerms K, x.dx, _, _, rfl, obj_raw R s .here, T.cls, T.na _ (by decide +kernel), by kernel_rfl, hv _ ⟨_, n, rfl, rfl, x.dx, _, obj_raw R s .here, (by show 6 < 1000; decide), q _ (obj_put R s rfl)⟩⟩
theorem augTermsSub_share {n : Int} {tv : TE} (T : TTerms K) (R : Rel H L) (s : Sel (termsO K p c x) L L') (hv : ∀ Q : VK, Q (.int n) H → tv σ H Q) (q : ∀ H', Rel H' (termsO K p { c with share := c.share - n } x :: L') → D.nx σ H') : FAugAt K tv rSub "share" D σ (.ref p) H := ⟨p, cTerms K, x.dx, _, _, rfl, obj_raw R s .here, T.cls, T.na _ (by decide +kernel), by kernel_rfl, hv _ ⟨_, n, rfl, rfl, x.dx, _, obj_raw R s .here, (by show 6 < 1000; decide), q _ (obj_put R s rfl)⟩⟩
theorem setTerms_ill {y : Int} (T : TTerms K) (R : Rel H L) (s : Sel (termsO K p c x) L L') (q : ∀ H', Rel H' (termsO K p { c with ill := y } x :: L') → D.nx σ H') : SFldAt K "ill" D σ (.int y) (.ref p) H := ⟨p, cTerms K, x.dx, _, rfl, obj_raw R s .here, T.cls, T.na _ (by decide +kernel), (by show 6 < 1000; decide), q _ (obj_put R s rfl)⟩
theorem augTermsAdd_ill {n : Int} {tv : TE} (T : TTerms K) (R : Rel H L) (s : Sel (termsO K p c x) L L') (hv : ∀ Q : VK, Q (.int n) H → tv σ H Q) (q : ∀ H', Rel H' (termsO K p { c with ill := c.ill + n } x :: L') → D.nx σ H') : FAugAt K tv rAdd "ill" D σ (.ref p) H := ⟨p, cTerms K, x.dx, _, _, rfl, obj_raw R s .here, T.cls, T.na _ (by decide +kernel), by kernel_rfl, hv _ ⟨_, n, rfl, rfl, x.dx, _, obj_raw R s .here, (by show 6 < 1000; decide), q _ (obj_put R s rfl)⟩⟩
theorem augTermsSub_ill {n : Int} {tv : TE} (T : TTerms K) (R : Rel H L) (s : Sel (termsO K p c x) L L') (hv : ∀ Q : VK, Q (.int n) H → tv σ H Q) (q : ∀ H', Rel H' (termsO K p { c with ill := c.ill - n } x :: L') → D.nx σ H') : FAugAt K tv rSub "ill" D σ (.ref p) H := ⟨p, cTerms K, x.dx, _, _, rfl, obj_raw R s .here, T.cls, T.na _ (by decide +kernel), by kernel_rfl, hv _ ⟨_, n, rfl, rfl, x.dx, _, obj_raw R s .here, (by show 6 < 1000; decide), q _ (obj_put R s rfl)⟩⟩
theorem setTerms_spread {y : Int} (T : TTerms K) (R : Rel H L) (s : Sel (termsO K p c x) L L') (q : ∀ H', Rel H' (termsO K p { c with spread := y } x :: L') → D.nx σ H') : SFldAt K "spread" D σ (.int y) (.ref p) H := ⟨p, cTerms K, x.dx, _, rfl, obj_raw R s .here, T.cls, T.na _ (by decide +kernel), (by show 6 < 1000; decide), q _ (obj_put R s rfl)⟩
theorem augTermsAdd_spread {n : Int} {tv : TE} (T : TTerms K) (R : Rel H L) (s : Sel (termsO K p c x) L L') (hv : ∀ Q : VK, Q (.int n) H → tv σ H Q) (q : ∀ H', Rel H' (termsO K p { c with spread := c.spread + n } x :: L') → D.nx σ H') : FAugAt K tv rAdd "spread" D σ (.ref p) H := ⟨p, cTerms K, x.dx, _, _, rfl, obj_raw R s .here, T.cls, T.na _ (by decide +kernel), by kernel_rfl, hv _ ⟨_, n, rfl, rfl, x.dx, _, obj_raw R s .here, (by show 6 < 1000; decide), q _ (obj_put R s rfl)⟩⟩
theorem augTermsSub_spread {n : Int} {tv : TE} (T : TTerms K) (R : Rel H L) (s : Sel (termsO K p c x) L L') (hv : ∀ Q : VK, Q (.int n) H → tv σ H Q) (q : ∀ H', Rel H' (termsO K p { c with spread := c.spread - n } x :: L') → D.nx σ H') : FAugAt K tv rSub "spread" D σ (.ref p) H := ⟨p, cTerms K, x.dx, _, _, rfl, obj_raw R s .here, T.cls, T.na _ (by decide +kernel), by kernel_rfl, hv _ ⟨_, n, rfl, rfl, x.dx, _, obj_raw R s .here, (by show 6 < 1000; decide), q _ (obj_put R s rfl)⟩⟩
theorem methTerms {m : Str} {sp : Sp} {dvs : List V} {E : XK} {tar : TA} (hm : ∀ v0 v1 v2 v3 v4 v5, (termsF v0 v1 v2 v3 v4 v5).lookup m = none) (R : Rel H L) (s : Sel (termsO K p c x) L L') (q : tar σ H fun vs H2 => sp (.ref p :: (vs ++ dvs)) H2 Q E) : MethAt (cTerms K) m sp dvs E tar σ Q (.ref p) H := meth_at (obj_raw R s .here) (hm ..) q
end
end Wn
namespace Wn
open PySem L2

/-! ### == of data -/
class Dt (α : Type) [Fr α] where
  dt : α → PyData
  dp : ∀ {K : PySem.W.Frag} {H : Hp} {x : α} {v : V}, Fr.is H x v → Dp K H v (dt x)
  ev : ∀ {x y : α}, PyData.eqv (dt x) (dt y) = true ↔ x = y
  dep : Nat
  low : ∀ x : α, (dt x).depth ≤ dep
instance : Dt Int := ⟨.int, fun h => by cases h; exact .int _, by intro x y; show (x == y) = true ↔ _; simp, 0, fun _ => Nat.le_refl _⟩
instance : Dt Bool := ⟨.bool, fun h => by cases h; exact .bl _, by intro x y; show (x == y) = true ↔ _; simp, 0, fun _ => Nat.le_refl _⟩
instance : Dt Str := ⟨.str, fun h => by cases h; exact .str _, by intro x y; show (x == y) = true ↔ _; simp, 0, fun _ => Nat.le_refl _⟩
section
variable {α β γ δ : Type} [Fr α] [Fr β] [Fr γ] [Fr δ] [Dt α] [Dt β] [Dt γ] [Dt δ]
theorem ev_all {x y : PyData} {xs ys : List PyData} : PyData.eqvAll (x :: xs) (y :: ys) = (PyData.eqv x y && PyData.eqvAll xs ys) := rfl
instance : Dt (T2 α β) := ⟨fun x => .tuple [Dt.dt x.a, Dt.dt x.b], fun h => by
    obtain ⟨t, va, vb, rfl, h0, h1, h2⟩ := h
    exact .tup (.inl (.inl h0)) (.cons (Dt.dp h1) (.cons (Dt.dp h2) .nil)), by
    intro x y
    obtain ⟨a, b⟩ := x
    obtain ⟨c, d⟩ := y
    show (PyData.eqv (Dt.dt a) (Dt.dt c) && (PyData.eqv (Dt.dt b) (Dt.dt d) && true)) = true ↔ _
    rw [Bool.and_true, Bool.and_eq_true, Dt.ev, Dt.ev, T2.mk.injEq], (max (Dt.dep α) (Dt.dep β)) + 1, fun x => by
    have h1 := Dt.low x.a
    have h2 := Dt.low x.b
    show (max _ (max _ 0)) + 1 ≤ _
    omega⟩
instance : Dt (T3 α β γ) := ⟨fun x => .tuple [Dt.dt x.a, Dt.dt x.b, Dt.dt x.c], fun h => by
    obtain ⟨t, va, vb, vc, rfl, h0, h1, h2, h3⟩ := h
    exact .tup (.inl (.inl h0)) (.cons (Dt.dp h1) (.cons (Dt.dp h2) (.cons (Dt.dp h3) .nil))), by
    intro x y
    obtain ⟨a, b, c⟩ := x
    obtain ⟨d, e, f⟩ := y
    show (PyData.eqv (Dt.dt a) (Dt.dt d) && (PyData.eqv (Dt.dt b) (Dt.dt e) && (PyData.eqv (Dt.dt c) (Dt.dt f) && true))) = true ↔ _
    rw [Bool.and_true, Bool.and_eq_true, Bool.and_eq_true, Dt.ev, Dt.ev, Dt.ev, T3.mk.injEq], (max (Dt.dep α) (max (Dt.dep β) (Dt.dep γ))) + 1, fun x => by
    have h1 := Dt.low x.a
    have h2 := Dt.low x.b
    have h3 := Dt.low x.c
    show (max _ (max _ (max _ 0))) + 1 ≤ _
    omega⟩
end
def dtL {α : Type} [Fr α] [Dt α] (xs : List α) : PyData := .list (xs.map Dt.dt)
def layL {α : Type} [Fr α] [Dt α] (xs : List α) : Bool := xs.all fun x => (Dt.dt x).canLay0
def eqL {α : Type} [Fr α] [Dt α] [DecidableEq α] (xs ys : List α) : Res Empty Bool := Res.guard (layL xs = true ∧ layL ys = true) (decide (xs = ys))
section
variable {K : PySem.W.Frag} {α ε β : Type} [Fr α] [Dt α] [DecidableEq α] {H : Hp} {Q : VK} {L : List Cell} {Φ : β → Prop} {Ψ : ε → Prop}
theorem dp_all : ∀ {xs : List α} {vs : List V}, Frs H xs vs → DpAll K H vs (xs.map Dt.dt)
  | _, _, .nil => .nil
  | _, _, .cons a t => .cons (Dt.dp a) (dp_all t)
theorem can_all : ∀ {xs : List α}, layL xs = true → PyData.canLayAll0 (xs.map Dt.dt) = true
  | [], _ => rfl
  | x :: xs, h => by
    have h2 : ((Dt.dt x).canLay0 && layL xs) = true := h
    show ((Dt.dt x).canLay0 && PyData.canLayAll0 (xs.map Dt.dt)) = true
    obtain ⟨h3, h4⟩ := Bool.and_eq_true_iff.mp h2
    rw [h3, can_all h4]; rfl
theorem dep_all : ∀ (xs : List α), PyData.depthAll (xs.map Dt.dt) ≤ Dt.dep α
  | [] => Nat.zero_le _
  | x :: xs => by
    have h1 := Dt.low x
    have h2 := dep_all xs
    show max _ (PyData.depthAll (xs.map Dt.dt)) ≤ _
    omega
theorem eqv_all : ∀ (xs ys : List α), PyData.eqvAll (xs.map Dt.dt) (ys.map Dt.dt) = decide (xs = ys)
  | [], [] => rfl
  | [], _ :: _ => rfl
  | _ :: _, [] => rfl
  | x :: xs, y :: ys => by
    show (PyData.eqv (Dt.dt x) (Dt.dt y) && PyData.eqvAll (xs.map Dt.dt) (ys.map Dt.dt)) = _
    rw [eqv_all xs ys]
    have e : PyData.eqv (Dt.dt x) (Dt.dt y) = decide (x = y) := by
      cases h : PyData.eqv (Dt.dt x) (Dt.dt y) with
      | true => exact (decide_eq_true (Dt.ev.mp h)).symm
      | false => exact (decide_eq_false fun z => by rw [Dt.ev.mpr z] at h; cases h).symm
    rw [e, ← Bool.decide_and]
    exact decide_eq_decide.mpr (by rw [List.cons.injEq])
theorem shaped_l {xs : List α} (h : layL xs = true) (hd : Dt.dep α < 60) : SeqAt.shaped (dtL xs) = true := by
  have h1 := dep_all xs
  show ((PyData.canLayAll0 (xs.map Dt.dt)) && decide (PyData.depthAll (xs.map Dt.dt) + 1 ≤ 64)) = true
  rw [can_all h, decide_eq_true (by omega)]; rfl
theorem st_eqL {xs ys : List α} {a b : Addr} {f : Bool → Res ε β} (R : Rel H L) (l : HasL K a xs L) (l' : HasL K b ys L) (hd : Dt.dep α < 60) (h : Out ((eqL xs ys).bind f) Φ Ψ) (q : ∀ z, Out (f z) Φ Ψ → Q (.bl z) H) : rEqD K (.ref a) (.ref b) H Q := by
  obtain ⟨⟨c1, c2⟩, h⟩ := Out.g h
  obtain ⟨vs, h1, h2⟩ := l H R
  obtain ⟨ws, h3, h4⟩ := l' H R
  refine ⟨dtL xs, dtL ys, .lst h1 (dp_all h2), .lst h3 (dp_all h4), shaped_l c1 hd, shaped_l c2 hd, ?_⟩
  show Q (.bl (PyData.eqvAll (xs.map Dt.dt) (ys.map Dt.dt))) H
  rw [eqv_all]; exact q _ h
theorem st_neL {xs ys : List α} {a b : Addr} {f : Bool → Res ε β} (R : Rel H L) (l : HasL K a xs L) (l' : HasL K b ys L) (hd : Dt.dep α < 60) (h : Out ((eqL xs ys).bind f) Φ Ψ) (q : ∀ z, Out (f z) Φ Ψ → Q (.bl (!z)) H) : rNeD K (.ref a) (.ref b) H Q := by
  obtain ⟨⟨c1, c2⟩, h⟩ := Out.g h
  obtain ⟨vs, h1, h2⟩ := l H R
  obtain ⟨ws, h3, h4⟩ := l' H R
  refine ⟨dtL xs, dtL ys, .lst h1 (dp_all h2), .lst h3 (dp_all h4), shaped_l c1 hd, shaped_l c2 hd, ?_⟩
  show Q (.bl (!PyData.eqvAll (xs.map Dt.dt) (ys.map Dt.dt))) H
  rw [eqv_all]; exact q _ h
/-- isinstance(xs, list) -/
theorem st_isiL {xs : List α} {a : Addr} (R : Rel H L) (l : MutL a xs L mk) (q : Q (.bl true) H) : rIsi K [.ref a, .ty "list"] H Q := by
  obtain ⟨vs, h1, _⟩ := l H R
  exact ⟨.ref a, .ty "list", .type "list", .type "list", true, rfl, .ty "list", .base (.lst h1), kit_ty (by decide +kernel), q⟩
end
/-! ### sorting -/
theorem frs_perm {α : Type} [Fr α] {H : Hp} : ∀ {vs ws : List V}, ws.Perm vs → ∀ {xs : List α}, Frs H xs vs → ∃ ys, ys.Perm xs ∧ Frs H ys ws := by
  intro vs ws p
  induction p with
  | nil => intro xs f; cases f; exact ⟨[], .refl _, .nil⟩
  | cons v p ih =>
    intro xs f
    cases f with
    | cons r t =>
      obtain ⟨ys, p1, f1⟩ := ih t
      exact ⟨_ :: ys, p1.cons _, .cons r f1⟩
  | swap v w l =>
    intro xs f
    cases f with
    | cons r t =>
      cases t with
      | cons r2 t => exact ⟨_ :: _ :: _, List.Perm.swap .., .cons r2 (.cons r t)⟩
  | trans p1 p2 ih1 ih2 =>
    intro xs f
    obtain ⟨ys, q1, f1⟩ := ih2 f
    obtain ⟨zs, q2, f2⟩ := ih1 f1
    exact ⟨zs, q2.trans q1, f2⟩
theorem paired_mem {α β : Type} {P : α → β → Prop} : ∀ {xs : List α} {ys : List β}, Paired P xs ys → ∀ y ∈ ys, ∃ x ∈ xs, P x y
  | _, _, .nil, y, h => by cases h
  | _, _, .cons a t, y, h => by
    rcases List.mem_cons.mp h with rfl | h
    · exact ⟨_, List.mem_cons_self, a⟩
    · obtain ⟨x, hx, p⟩ := paired_mem t y h
      exact ⟨x, List.mem_cons_of_mem _ hx, p⟩
theorem paired_mem2 {α β : Type} {P : α → β → Prop} : ∀ {xs : List α} {ys : List β}, Paired P xs ys → ∀ x ∈ xs, ∃ y ∈ ys, P x y
  | _, _, .nil, y, h => by cases h
  | _, _, .cons a t, y, h => by
    rcases List.mem_cons.mp h with rfl | h
    · exact ⟨_, List.mem_cons_self, a⟩
    · obtain ⟨x, hx, p⟩ := paired_mem2 t y h
      exact ⟨x, List.mem_cons_of_mem _ hx, p⟩
theorem paired_pw {α β : Type} {P : α → β → Prop} {S : β → β → Prop} {S' : α → α → Prop} : ∀ {xs : List α} {ys : List β}, Paired P xs ys → ys.Pairwise S → (∀ a b x y, P a x → P b y → S x y → S' a b) → xs.Pairwise S'
  | _, _, .nil, _, _ => .nil
  | _, _, .cons a t, h, k => by
    obtain ⟨h1, h2⟩ := List.pairwise_cons.mp h
    refine List.pairwise_cons.mpr ⟨fun b hb => ?_, paired_pw t h2 k⟩
    obtain ⟨y, hy, p⟩ := paired_mem2 t b hb
    exact k _ _ _ _ a p (h1 y hy)
/-- tuples of numbers, as lists -/
class TI (α : Type) [Fr α] where
  ns : α → List Int
  len : Nat
  hl : ∀ x, (ns x).length = len
  inj : ∀ {x y : α}, ns x = ns y → x = y
  tup : ∀ {K : PySem.W.Frag} {H : Hp} {x : α} {v : V}, Fr.is H x v → TupI K H v (ns x)
instance : TI (T2 Int Int) := ⟨fun x => [x.a, x.b], 2, fun _ => rfl, fun {x y} h => by
  obtain ⟨a, b⟩ := x; obtain ⟨c, d⟩ := y; simpa using h, fun h => by
  obtain ⟨t, va, vb, rfl, h0, h1, h2⟩ := h
  cases h1; cases h2
  exact ⟨t, rfl, .inl (.inl h0)⟩⟩
instance : TI (T3 Int Int Int) := ⟨fun x => [x.a, x.b, x.c], 3, fun _ => rfl, fun {x y} h => by
  obtain ⟨a, b, c⟩ := x; obtain ⟨d, e, f⟩ := y; simpa using h, fun h => by
  obtain ⟨t, va, vb, vc, rfl, h0, h1, h2, h3⟩ := h
  cases h1; cases h2; cases h3
  exact ⟨t, rfl, .inl (.inl h0)⟩⟩
instance : TI (T4 Int Int Int Int) := ⟨fun x => [x.a, x.b, x.c, x.d], 4, fun _ => rfl, fun {x y} h => by
  obtain ⟨a, b, c, d⟩ := x; obtain ⟨e, f, g, k⟩ := y; simpa using h, fun h => by
  obtain ⟨t, va, vb, vc, vd, rfl, h0, h1, h2, h3, h4⟩ := h
  cases h1; cases h2; cases h3; cases h4
  exact ⟨t, rfl, .inl (.inl h0)⟩⟩
def sortB : Int := 10 ^ 45
def tLe {α : Type} [Fr α] [TI α] (x y : α) : Bool := decide (TS.code sortB (TI.ns x) ≤ TS.code sortB (TI.ns y))
def sortT {α : Type} [Fr α] [TI α] (xs : List α) : List α := xs.mergeSort tLe
def bdT {α : Type} [Fr α] [TI α] (x : α) : Bool := (TI.ns x).all fun i => decide (0 ≤ i ∧ i < sortB)
def sortT_ {α : Type} [Fr α] [TI α] (xs : List α) : Res Empty (List α) := Res.guard (xs.length < 64 ∧ xs.all bdT = true) (sortT xs)
theorem code_inj : ∀ {B : Int} {ns ms : List Int}, ns.length = ms.length → TS.Bd B ns → TS.Bd B ms → TS.code B ns = TS.code B ms → ns = ms
  | B, [], [], _, _, _, _ => rfl
  | B, [], _ :: _, h, _, _, _ => by simp at h
  | B, _ :: _, [], h, _, _, _ => by simp at h
  | B, d :: r, e :: q, hl, h1, h2, h => by
    have hl2 : r.length = q.length := by simpa using hl
    rcases Int.lt_trichotomy d e with c | c | c
    · have := TS.code_lt hl2 h1.tail h2.tail c; omega
    · subst c
      have h3 : TS.code B r = TS.code B q := by
        rcases Int.lt_trichotomy (TS.code B r) (TS.code B q) with z | z | z
        · have := (TS.code_same (d := d) hl2).mpr z; omega
        · exact z
        · have := (TS.code_same (d := d) hl2.symm).mpr z; omega
      rw [code_inj hl2 h1.tail h2.tail h3]
    · have := TS.code_lt hl2.symm h2.tail h1.tail c; omega
section
variable {K : PySem.W.Frag} {α ε β : Type} [Fr α] [TI α] {H : Hp} {Q : VK} {L : List Cell} {a : Addr} {Φ : β → Prop} {Ψ : ε → Prop}
theorem bdT_bd {x : α} (h : bdT x = true) : TS.Bd sortB (TI.ns x) := fun m hm => by
  simpa using List.all_eq_true.mp h m hm
theorem sortT_perm {xs : List α} : (sortT xs).Perm xs := List.mergeSort_perm ..
theorem sortT_pw (xs : List α) : (sortT xs).Pairwise (fun x y => TS.code sortB (TI.ns x) ≤ TS.code sortB (TI.ns y)) := by
  have h := List.pairwise_mergeSort (le := tLe (α := α)) (fun a b c h1 h2 => by simp [tLe] at *; omega) (fun a b => by simp [tLe]; omega) xs
  exact h.imp fun h => by simpa [tLe] using h
theorem sortT_eq {xs ys : List α} (hb : xs.all bdT = true) (p : ys.Perm xs) (s : ys.Pairwise (fun x y => TS.code sortB (TI.ns x) ≤ TS.code sortB (TI.ns y))) : ys = sortT xs := by
  have q : ys.Perm (sortT xs) := p.trans sortT_perm.symm
  refine List.Perm.eq_of_pairwise (fun a b ha hb' h1 h2 => ?_) s (sortT_pw xs) q
  have m1 : bdT a = true := List.all_eq_true.mp hb a (p.mem_iff.mp ha)
  have m2 : bdT b = true := List.all_eq_true.mp hb b (sortT_perm.mem_iff.mp hb')
  exact TI.inj (code_inj (by rw [TI.hl, TI.hl]) (bdT_bd m1) (bdT_bd m2) (Int.le_antisymm h1 h2))
theorem st_sortT {xs : List α} {f : List α → Res ε β} (R : Rel H L) (l : HasL K a xs L) (h : Out ((sortT_ xs).bind f) Φ Ψ) (q : ∀ y b H', Rel H' ((b, lsF y) :: L) → Out (f y) Φ Ψ → Q (.ref b) H') : rSortU K (TI.len α) sortB [V.ref a] H Q := by
  obtain ⟨⟨c1, c2⟩, h⟩ := Out.g h
  obtain ⟨vs, h1, h2⟩ := l H R
  refine ⟨a, vs, rfl, h1, by rw [← Paired.length h2]; exact c1, fun v hv => ?_, fun ys p hp hs hn => ?_⟩
  · obtain ⟨x, hx, hf⟩ := paired_mem h2 v hv
    exact ⟨TI.ns x, TI.tup hf, TI.hl x, bdT_bd (List.all_eq_true.mp c2 x hx)⟩
  · obtain ⟨zs, p1, f1⟩ := frs_perm hp h2
    have e : zs = sortT xs := sortT_eq c2 p1 (paired_pw f1 hs fun a b x y ha hb s => s _ _ (TI.tup ha) (TI.tup hb))
    rw [← e] at h
    exact q _ p _ ((R.new hn).rawLs (f1.pers (Pers.new hn))) h
end
/-- sorted(d), a dict of int keys -/
def rSortedDI : List V → Hp → VK → Prop := fun xs H Q => ∃ (a : Addr) (kvs : List (Key × V)) (ks : List Int), xs = [.ref a] ∧ Rd H a (.dK kvs) ∧ kvs.map (·.1) = ks.map Sum.inl ∧ ks.length < 64 ∧
    ∀ (ys : List Int) (p : Addr), ys.Perm ks → ys.Pairwise (· ≤ ·) → H p = none → Q (.ref p) (upd H p (.lst (ys.map V.int)))
def sortD_ {α : Type} (kvs : List (Int × α)) : Res Empty (List Int) := Res.guard (kvs.length < 64) (sortI (kvs.map (·.1)))
section
variable {α ε β : Type} [Fr α] {H : Hp} {Q : VK} {L : List Cell} {a : Addr} {Φ : β → Prop} {Ψ : ε → Prop}
theorem drel_keys : ∀ {kvs : List (Int × α)} {ks : List (Key × V)}, DRel H kvs ks → ks.map (·.1) = (kvs.map (·.1)).map Sum.inl
  | _, _, .nil => rfl
  | _, _, .cons a t => by
    rw [List.map_cons, List.map_cons, List.map_cons, drel_keys t, a.1]; rfl
theorem st_sortD {kvs : List (Int × α)} {f : List Int → Res ε β} (R : Rel H L) (m : HasD a kvs L) (h : Out ((sortD_ kvs).bind f) Φ Ψ) (q : ∀ y b H', Rel H' ((b, lsF y) :: L) → Out (f y) Φ Ψ → Q (.ref b) H') : rSortedDI [V.ref a] H Q := by
  obtain ⟨c, h⟩ := Out.g h
  obtain ⟨ks, h1, h2⟩ := m H R
  refine ⟨a, ks, kvs.map (·.1), rfl, .inl h1, drel_keys h2, by rw [List.length_map]; exact c, fun ys p hp hs hn => ?_⟩
  rw [sortI_eq hp hs]
  exact q _ p _ ((R.new hn).rawLs (Frs.ofSc _)) h
end
end Wn
namespace Wn
open PySem L2

theorem Sel.appR' {c : Cell} {B B' : List Cell} : ∀ {A : List Cell}, Sel c B B' → Sel c (A ++ B) (A ++ B')
  | [], s => s
  | _ :: _, s => .there (Sel.appR' s)
/-! ### the keys of a dict, walked -/
section
variable {K : PySem.W.Frag} {σ : L2.St} {H : Hp} {Q : VK} {L L' M A B : List Cell} {a p : Addr} {α : Type} [Fr α] {kvs : List (Int × α)} {ks : List (Key × V)} {od : Obj}
theorem wk_keys {ns : List Int} (hk : ks.map (·.1) = ns.map Sum.inl) : WkS (Itk a od ks) ns.length (fun L => ∃ L', Sel (a, raw (.frz od (.dK ks))) L L') (YX ns yS) := by
  have hl : ns.length = ks.length := by have := congrArg List.length hk; simpa using this.symm
  rw [hl]
  refine ⟨⟨fun i H hi ⟨L, R, _, s⟩ => walk_keys.goes i H hi (R.at s), fun H ⟨L, R, _, s⟩ => walk_keys.stops H (R.at s), fun i H v H' hi ⟨L0, R0, _, s0⟩ yd L R l => ?_⟩⟩
  obtain ⟨rfl, k, w, e1, e2⟩ := walk_keys.yields i H v H' hi (R0.at s0) yd
  have e3 : (ks.map (·.1))[i]? = some k := by rw [List.getElem?_map, e1]; rfl
  rw [hk, List.getElem?_map] at e3
  obtain ⟨n, e4, e5⟩ := Option.map_eq_some_iff.mp e3
  exact ⟨[], ⟨n, e4, by rw [e2, ← e5]; rfl, rfl⟩, R⟩
/-- a dict of an object, locked -/
theorem lock_obj (R : Rel H L) (s : Sel (p, objO (A ++ (a, dcF kvs) :: B)) L L') : ∃ ks, H a = some (.dK ks) ∧ ks.map (·.1) = (kvs.map (·.1)).map Sum.inl ∧ DRel H kvs ks ∧
    ∀ od, Rel (upd H a (.frz od (.dK ks))) ((a, raw (.frz od (.dK ks))) :: (0, factO (fun H => DRel H kvs ks) fun h p => DRel.pers h p) :: (p, objO (A ++ B)) :: L') := by
  have R1 := obj_open R s
  rw [List.append_assoc] at R1
  have R2 := R1.sel (selMid (A := A) (B := B ++ L'))
  obtain ⟨fps, q, nd⟩ := id R2
  cases q with
  | cons q t =>
    obtain ⟨ks, h1, h2, h3⟩ := q
    subst h3
    refine ⟨ks, h1, drel_keys h2, h2, fun od => ?_⟩
    have R3 : Rel H ((a, raw (.dK ks)) :: (A ++ (B ++ L'))) := ⟨_, .cons ⟨h1, rfl⟩ t, nd⟩
    have R4 := R3.put0 (o' := .frz od (.dK ks)) rfl
    have R5 : Rel (upd H a (.frz od (.dK ks))) ((p, objO (A ++ B)) :: (a, raw (.frz od (.dK ks))) :: L') := by
      refine obj_close ?_
      rw [List.append_assoc]
      have R6 : Rel (upd H a (.frz od (.dK ks))) ((a, raw (.frz od (.dK ks))) :: ((A ++ B) ++ L')) := by rw [List.append_assoc]; exact R4
      have R7 := Rel.toFront R6
      rw [List.append_assoc] at R7; exact R7
    exact ((R5.sel (.there .here)).addF (a := 0) (h2.pers (Pers.upd h1 rfl))).sel (.there .here)
theorem unlock_obj {X : Cell} (R : Rel H (X :: (a, raw (.frz od (.dK ks))) :: (0, factO (fun H => DRel H kvs ks) fun h p => DRel.pers h p) :: (p, objO (A ++ B)) :: L')) :
    H a = some (.frz od (.dK ks)) ∧ Rel (upd H a (.dK ks)) (X :: (p, objO (A ++ (a, dcF kvs) :: B)) :: L') := by
  have h1 := R.at (.there .here)
  refine ⟨h1, ?_⟩
  have R1 := R.sel (.there .here)
  have R2 := R1.put0 (o' := .dK ks) rfl
  have h2 : DRel (upd H a (.dK ks)) kvs ks := R2.atF (.there (.there .here))
  have R3 := (R2.sel (.there (.there .here))).drop
  have R4 := R3.rawDc h2
  have R5 : Rel (upd H a (.dK ks)) ((p, objO (A ++ B)) :: (a, dcF kvs) :: X :: L') := R4.sel (.there (.there .here))
  have R6 := obj_open R5 .here
  refine Rel.sel (L := (p, objO (A ++ (a, dcF kvs) :: B)) :: X :: L') (obj_close ?_) (.there .here)
  rw [List.append_assoc] at R6 ⊢
  have R7 : Rel (upd H a (.dK ks)) ((a, dcF kvs) :: (A ++ (B ++ X :: L'))) := by
    have := R6
    rw [← List.append_assoc] at this
    have := Rel.sel this (Sel.appR' (A := A ++ B) .here)
    rw [List.append_assoc] at this
    exact this
  exact Rel.toFront R7
end

/-! ### Book.held -/
def m_Book_held (m : BookM) : Res Empty (List Int) := (lcR (fun n : Int => cond (!decide (n = 64)) (.ok (some n)) (.ok none)) [] (m.whr.map (·.1))).then_ fun acc => .ok (sortI acc)
def sp_Book_held (K : PySem.W.Frag) : Sp := SpS fun vs pre k => ∃ (p : Addr) (x : BookX) (m : BookM), vs = [.ref p] ∧ pre = [bookO K p m x] ∧ Out (m_Book_held m) (fun r => ∀ q : Addr, k (.ref q) [(q, lsF r), bookO K p m x]) (fun _ => False)
def t_Book_held (K : PySem.W.Frag) : TS := tRet (tCB (rSortedI K) (tCons (tLockE (tLc (iKeys (tFld K (tVar 0) "where")) (gName 1) (tTest (tOp rNe (tVar 1) (tC (.int (64))))) (tVar 1) [1])) (tNil)))
theorem pure_Book_held {K : PySem.W.Frag} {vs : List V} {H : Hp} {Q : VK} {E : XK} (T_Book : TBook K) (hsp : sp_Book_held K vs H Q E) : t_Book_held K (endsOf Q) (start ["self", "name"] vs) H := by
  obtain ⟨pre, F, R, p, x, m, rfl, rfl, h⟩ := hsp.use
  unfold m_Book_held at h
  unfold t_Book_held
  refine go_ret <| go_CB <| go_cons <| ?_
  obtain ⟨ks, h1, hk, hd, lk⟩ := lock_obj (A := [_]) R .here
  refine ⟨x.whr, .dK ks, h1, trivial, fun od => ?_⟩
  have R1 := lk od
  refine go_lc <| go_fld <| go_var rfl <| ⟨p, cBook K, x.dx, _, _, rfl, obj_raw R1 (.there (.there .here)) .here, T_Book.cls, T_Book.na _ (by decide +kernel), by kernel_rfl, x.whr, od, rfl, .inl ⟨ks, R1.at .here, ?_⟩⟩
  refine st_lc (δ := Int) (wk_keys hk) R1 h (fun c1 c2 => ⟨_, .there (.there .here)⟩) (fun x v cs acc us d H ys hy R hl h => ?_) (fun d H acc R h => ?_)
  · obtain ⟨rfl, rfl⟩ := hy
    refine go_name <| ⟨rfl, ?_⟩
    refine go_test <| go_op <| go_var rfl <| go_c <| st_neI <| go_bl <| st_ite h (fun hc h => ?_) (fun hc h => ?_)
    · refine go_var rfl <| ?_
      exact lc_add (cs := [_, _, _]) hl h rfl R (.cons .here (.cons .here (.cons .here (.cons .here (.cons .here .nil))))) .refl
    · exact lc_skip (cs := [_, _, _]) h R (.cons .here (.cons .here (.cons .here (.cons .here (.cons .here .nil))))) .refl
  · obtain ⟨e, R⟩ := unlock_obj (A := [_]) R
    refine ⟨e, ?_⟩
    refine go_nil <| st_sortI R (HasL.of .here RdL.ls) fun b H R => ?_
    exact h b _ (R.fin (.cons .here (.cons (.there .here) .nil)) (.skip .refl))
end Wn
namespace Wn
open PySem PySem.Spec PyProof.Rows L2
theorem pe_gc {X : Cx} {x : Str} {pos : Pos} {i : Int} (hg : Gl X x) (hm : ∃ t, X.mg x = some (.int i t)) (hd : (x == (("__debug__" : Str))) = false := by decide) : PE X (.Name x pos) (tC (.int i)) := by
  obtain ⟨t, hm⟩ := hm
  exact pe_glob hg hm ⟨t, rfl⟩ hd
theorem pe_gs {X : Cx} {x z : Str} {pos : Pos} (hg : Gl X x) (hm : ∃ t, X.mg x = some (.str z t)) (hd : (x == (("__debug__" : Str))) = false := by decide) : PE X (.Name x pos) (tC (.str z)) := by
  obtain ⟨t, hm⟩ := hm
  exact pe_glob hg hm ⟨t, rfl⟩ hd
end Wn
namespace Wn
open PySem L2
def m_is_whole (thing0 : Int) : Res Empty (Bool) :=  .ok (true && ((!false)))
def sp_is_whole (K : PySem.W.Frag) : Sp := SpS fun vs pre k => ∃ (thing0 : Int), vs = [.int thing0] ∧ pre = [] ∧ Out (m_is_whole thing0) (fun r => k (.bl r) []) (fun _ => False)
def t_is_whole (K : PySem.W.Frag) : TS := tRet (tAndV (tCB (rIsi K) (tCons (tVar 0) (tCons (tC (.ty "int")) (tNil)))) (tNotV (tCB (rIsi K) (tCons (tVar 0) (tCons (tC (.ty "bool")) (tNil))))))
theorem pure_is_whole {K : PySem.W.Frag} {vs : List V} {H : Hp} {Q : VK} {E : XK}  (hsp : sp_is_whole K vs H Q E) : t_is_whole K (endsOf Q) (start ["thing"] vs) H := by
  obtain ⟨pre, F, R, thing0, rfl, rfl, h⟩ := hsp.use
  unfold m_is_whole at h
  unfold t_is_whole
  with_reducible refine go_ret ?_
  refine gn_andV <| go_CB <| go_cons <| go_var rfl <| go_cons <| go_c <| go_nil <| st_isiI (b := true) (by decide +kernel) <| st_andVP (d := (!false)) ?_ fun hq => ?_
  rotate_left
  · refine go_notV <| go_CB <| go_cons <| go_var rfl <| go_cons <| go_c <| go_nil <| st_isiI (b := false) (by decide +kernel) <| go_bl <| hq
  exact h _ (R.fin (cs := []) .nil .refl)
def m_is_within (thing0 : Int) (low0 : Int) (high0 : Int) : Res Empty (Bool) := (m_is_whole thing0).bind fun r1 => .ok (r1 && (((decide (low0 ≤ thing0)) && (decide (thing0 ≤ high0)))))
def sp_is_within (K : PySem.W.Frag) : Sp := SpS fun vs pre k => ∃ (thing0 : Int) (low0 : Int) (high0 : Int), vs = [.int thing0, .int low0, .int high0] ∧ pre = [] ∧ Out (m_is_within thing0 low0 high0) (fun r => k (.bl r) []) (fun _ => False)
def t_is_within (K : PySem.W.Frag) : TS := tRet (tAndV (tCall (sp_is_whole K) [] E0 (tCons (tVar 0) (tNil))) (tChain rLeI rLeI (tVar 1) (tVar 0) (tVar 2)))
theorem pure_is_within {K : PySem.W.Frag} {vs : List V} {H : Hp} {Q : VK} {E : XK}  (hsp : sp_is_within K vs H Q E) : t_is_within K (endsOf Q) (start ["thing", "low", "high"] vs) H := by
  obtain ⟨pre, F, R, thing0, low0, high0, rfl, rfl, h⟩ := hsp.use
  unfold m_is_within at h
  unfold t_is_within
  with_reducible refine go_ret ?_
  refine gn_andV <| go_call <| go_cons <| go_var rfl <| go_nil <| SpS.call R .nil ⟨thing0, rfl, rfl, Out.use h fun r1 h H R => ?_⟩
  refine st_andVP (d := ((decide (low0 ≤ thing0)) && (decide (thing0 ≤ high0)))) ?_ fun hq => ?_
  rotate_left
  · refine gn_chain <| go_var rfl <| go_var rfl <| go_I0 <| st_chP (d := decide (thing0 ≤ high0)) ?_ fun hq => ?_
    rotate_left
    · refine go_var rfl <| go_I0 <| hq
    refine hq
  exact h _ (R.fin (cs := []) .nil .refl)
def m_mark_of (stamp0 : Int) (name0 : Int) : Res Empty (Int) := (shlI stamp0 ((7 : Int))).bind fun x1 => .ok (Builtin.bitOr x1 name0)
def sp_mark_of (K : PySem.W.Frag) : Sp := SpS fun vs pre k => ∃ (stamp0 : Int) (name0 : Int), vs = [.int stamp0, .int name0] ∧ pre = [] ∧ Out (m_mark_of stamp0 name0) (fun r => k (.int r) []) (fun _ => False)
def t_mark_of (K : PySem.W.Frag) : TS := tRet (tOp rOrI (tOp rShlI (tVar 0) (tC (.int (7)))) (tVar 1))
theorem pure_mark_of {K : PySem.W.Frag} {vs : List V} {H : Hp} {Q : VK} {E : XK}  (hsp : sp_mark_of K vs H Q E) : t_mark_of K (endsOf Q) (start ["stamp", "name"] vs) H := by
  obtain ⟨pre, F, R, stamp0, name0, rfl, rfl, h⟩ := hsp.use
  unfold m_mark_of at h
  unfold t_mark_of
  with_reducible refine go_ret ?_
  refine go_op <| go_op <| go_var rfl <| go_c <| st_shl h fun x1 h => ?_
  refine go_var rfl <| go_I0 <| ?_
  exact h _ (R.fin (cs := []) .nil .refl)
def m_stamp_of (mark0 : Int) : Res Empty (Int) :=  .ok (mark0 / 2 ^ ((7 : Int) : Int).toNat)
def sp_stamp_of (K : PySem.W.Frag) : Sp := SpS fun vs pre k => ∃ (mark0 : Int), vs = [.int mark0] ∧ pre = [] ∧ Out (m_stamp_of mark0) (fun r => k (.int r) []) (fun _ => False)
def t_stamp_of (K : PySem.W.Frag) : TS := tRet (tOp rShrI (tVar 0) (tC (.int (7))))
theorem pure_stamp_of {K : PySem.W.Frag} {vs : List V} {H : Hp} {Q : VK} {E : XK}  (hsp : sp_stamp_of K vs H Q E) : t_stamp_of K (endsOf Q) (start ["mark"] vs) H := by
  obtain ⟨pre, F, R, mark0, rfl, rfl, h⟩ := hsp.use
  unfold m_stamp_of at h
  unfold t_stamp_of
  with_reducible refine go_ret ?_
  refine go_op <| go_var rfl <| go_c <| go_I (by decide) <| ?_
  exact h _ (R.fin (cs := []) .nil .refl)
def m_name_of (mark0 : Int) : Res Empty (Int) :=  .ok (Builtin.bitAnd mark0 ((127 : Int)))
def sp_name_of (K : PySem.W.Frag) : Sp := SpS fun vs pre k => ∃ (mark0 : Int), vs = [.int mark0] ∧ pre = [] ∧ Out (m_name_of mark0) (fun r => k (.int r) []) (fun _ => False)
def t_name_of (K : PySem.W.Frag) : TS := tRet (tOp rAndI (tVar 0) (tC (.int (127))))
theorem pure_name_of {K : PySem.W.Frag} {vs : List V} {H : Hp} {Q : VK} {E : XK}  (hsp : sp_name_of K vs H Q E) : t_name_of K (endsOf Q) (start ["mark"] vs) H := by
  obtain ⟨pre, F, R, mark0, rfl, rfl, h⟩ := hsp.use
  unfold m_name_of at h
  unfold t_name_of
  with_reducible refine go_ret ?_
  refine go_op <| go_var rfl <| go_c <| go_I0 <| ?_
  exact h _ (R.fin (cs := []) .nil .refl)
def m_sheets_of (bits0 : Int) : Res Empty ((List Int)) :=    (whileR (fun (s2 : Int × Int × (List Int)) => ( cond ((decide ((0 : Int) < s2.1))) ( (cond ((decide ((Builtin.bitAnd s2.1 ((1 : Int))) = (1 : Int)))) ((appL s2.2.2 s2.2.1).bind fun x4 =>  .ok x4) ( .ok s2.2.2) : Res Empty ((List Int))).then_ fun s3 =>    .ok (.nx ((s2.1 / 2 ^ ((1 : Int) : Int).toNat), (s2.2.1 + (1 : Int)), s3))) (.ok (.bk (s2.1, s2.2.1, s2.2.2))) : Res Empty (Ctl (Int × Int × (List Int)) ((List Int))))) few (bits0, (0 : Int), ([] : (List Int)))).then_ fun c => ctl c (fun s2 =>  .ok s2.2.2) (fun r => .ok r)
def sp_sheets_of (K : PySem.W.Frag) : Sp := SpS fun vs pre k => ∃ (bits0 : Int), vs = [.int bits0] ∧ pre = [] ∧ Out (m_sheets_of bits0) (fun r => ∀ z1 : Addr, k (.ref z1) [(z1, lsF (r : (List Int)))]) (fun _ => False)
def t_sheets_of (K : PySem.W.Frag) : TS := tSeq (tAsg (tLst (tNil)) (gName 1)) (tSeq (tAsg (tC (.int (0))) (gName 2)) (tSeq (tWhile (tTest (tOp rGtI (tVar 0) (tC (.int (0))))) (tSeq (tIfS (tTest (tOp rEq (tOp rAndI (tVar 0) (tC (.int (1)))) (tC (.int (1))))) (tDrop (tBM K "list" rAppend (tVar 1) (tCons (tVar 2) (tNil)))) (tNext)) (tSeq (tAsg (tOp rShrI (tVar 0) (tC (.int (1)))) (gName 0)) (tAug 2 (tC (.int (1))) (ipI fun i j => i + j))))) (tRet (tVar 1))))
theorem pure_sheets_of {K : PySem.W.Frag} {vs : List V} {H : Hp} {Q : VK} {E : XK}  (hsp : sp_sheets_of K vs H Q E) : t_sheets_of K (endsOf Q) (start ["bits", "found", "sheet"] vs) H := by
  obtain ⟨pre, F, R, bits0, rfl, rfl, h⟩ := hsp.use
  unfold m_sheets_of at h
  unfold t_sheets_of
  with_reducible refine go_seq ?_
  with_reducible refine go_asg ?_
  refine go_lst <| go_nil <| st_new (xs := ([] : (List Int))) R .nil (by show 0 ≤ 1000; decide) fun a1 H R => ?_
  refine go_name <| ?_
  with_reducible refine go_seq ?_
  with_reducible refine go_asg ?_
  refine go_c <| go_name <| ?_
  with_reducible refine go_seq ?_
  refine st_while (S := Int × Int × (List Int)) (ρ := (List Int)) (N := few) (fun s2 σ L => σ = [some (.int s2.1), some (.ref a1), some (.int s2.2.1)] ∧ L = (a1, lsF (s2.2.2 : (List Int))) :: F) (R.fin (cs := [_]) (.cons .here .nil) .refl) h ⟨rfl, rfl⟩ fun n s2 σ H L R p h => ?_
  obtain ⟨rfl, rfl⟩ := p
  with_reducible refine go_test ?_
  refine go_op <| go_var rfl <| go_c <| go_I0 <| go_bl <| st_ite h (fun hc h => ?_) (fun hc h => ?_)
  · refine whl_go ?_
    with_reducible refine go_seq ?_
    with_reducible refine go_ifS ?_
    refine go_test <| go_op <| go_op <| go_var rfl <| go_c <| go_I0 <| go_c <| st_eqI <| go_bl <| st_join (α := (List Int)) (fun s3 σ L => σ = [some (.int s2.1), some (.ref a1), some (.int s2.2.1)] ∧ L = (a1, lsF (s3 : (List Int))) :: F) h (fun s3 σ H L R p h => ?_) (fun J hc h => ?_) (fun J hc h => ?_)
    · obtain ⟨rfl, rfl⟩ := p
      with_reducible refine go_seq ?_
      with_reducible refine go_asg ?_
      refine go_op <| go_var rfl <| go_c <| go_I (by decide) <| go_name <| ?_
      with_reducible refine' go_aug ?ha ?_
      case ha => exact rfl
      refine go_c <| go_ipI <| ?_
      with_reducible refine go_loop ?_
      exact loop_end (cs := [_]) ((s2.1 / 2 ^ ((1 : Int) : Int).toNat), (s2.2.1 + (1 : Int)), s3) h ⟨rfl, rfl⟩ R (.cons .here .nil) .refl
    · with_reducible refine go_drop ?_
      refine go_bm <| go_var rfl <| st_bmL R (HasL.of .here RdL.ls) <| go_cons <| go_var rfl <| go_nil <| st_app (x := s2.2.1) R (MutL.of .here) rfl h fun x4 H R h => ?_
      exact J x4 _ _ _ (R.fin (cs := [_]) (.cons .here .nil) .refl) ⟨rfl, rfl⟩ h
    · with_reducible refine go_next ?_
      exact J s2.2.2 _ _ _ (R.fin (cs := [_]) (.cons .here .nil) .refl) ⟨rfl, rfl⟩ h
  · with_reducible refine go_ret ?_
    refine go_var rfl <| ?_
    exact h _ _ (R.fin (cs := [_]) (.cons .here .nil) .refl)
def m_endurance (blocks0 : Int) (ills0 : Unit) : Res Empty ((List (Option Int))) := (repL (([(none : (Option Int))] : (List (Option Int)))) blocks0).bind fun x2 =>   .ok x2
def sp_endurance (K : PySem.W.Frag) : Sp := SpS fun vs pre k => ∃ (blocks0 : Int) (ills0 : Unit), vs = [.int blocks0, .non] ∧ pre = [] ∧ Out (m_endurance blocks0 ills0) (fun r => ∀ z1 : Addr, k (.ref z1) [(z1, lsF (r : (List (Option Int))))]) (fun _ => False)
def t_endurance (K : PySem.W.Frag) : TS := tSeq (tAsg (tOp rRep (tLst (tCons (tC .non) (tNil))) (tVar 0)) (gName 2)) (tSeq (tIfS (tTest (tOp rIsN (tVar 1) (tC .non))) (tRet (tVar 2)) (tNext)) (tSeq (tNever) (tNever)))
theorem pure_endurance {K : PySem.W.Frag} {vs : List V} {H : Hp} {Q : VK} {E : XK}  (hsp : sp_endurance K vs H Q E) : t_endurance K (endsOf Q) (start ["blocks", "ills", "found", "block", "good"] vs) H := by
  obtain ⟨pre, F, R, blocks0, ills0, rfl, rfl, h⟩ := hsp.use
  unfold m_endurance at h
  unfold t_endurance
  with_reducible refine go_seq ?_
  with_reducible refine go_asg ?_
  refine go_op <| go_lst <| go_cons <| go_c <| go_nil <| st_new (xs := ([(none : (Option Int))] : (List (Option Int)))) R (.cons (Sc.sc.mpr rfl) .nil) (by show 1 ≤ 1000; decide) fun a1 H R => ?_
  refine go_var rfl <| st_rep R (MutL.of .here) h fun x2 a3 H R h => ?_
  refine go_name <| ?_
  with_reducible refine go_seq ?_
  with_reducible refine go_ifS ?_
  refine go_test <| go_op <| go_var rfl <| go_c <| go_rIsN <| go_bl <| ite_t rfl <| ?_
  with_reducible refine go_ret ?_
  refine go_var rfl <| ?_
  exact h _ _ (R.fin (cs := [_]) (.cons .here .nil) (.skip (.refl)))
def m_Chip_is_dark (m_self0 : ChipM) : Res Empty (Bool) :=  .ok (decide (m_self0.left = some ((0 : Int))))
def sp_Chip_is_dark (K : PySem.W.Frag) : Sp := SpS fun vs pre k => ∃ (p_self0 : Addr) (x_self0 : ChipX) (m_self0 : ChipM), vs = [.ref p_self0] ∧ pre = [chipO K p_self0 m_self0 x_self0] ∧ Out (m_Chip_is_dark m_self0) (fun r => k (.bl r) [chipO K p_self0 m_self0 x_self0]) (fun _ => False)
def t_Chip_is_dark (K : PySem.W.Frag) : TS := tRet (tOp rEq (tFld K (tVar 0) "left") (tC (.int (0))))
theorem pure_Chip_is_dark {K : PySem.W.Frag} {vs : List V} {H : Hp} {Q : VK} {E : XK} (T_Chip : TChip K) (hsp : sp_Chip_is_dark K vs H Q E) : t_Chip_is_dark K (endsOf Q) (start ["self"] vs) H := by
  obtain ⟨pre, F, R, p_self0, x_self0, m_self0, rfl, rfl, h⟩ := hsp.use
  unfold m_Chip_is_dark at h
  unfold t_Chip_is_dark
  with_reducible refine go_ret ?_
  refine go_op <| go_fld <| go_var rfl <| getChip_left T_Chip R .here <| go_c <| st_eqO <| ?_
  exact h _ (R.fin (cs := [_]) (.cons .here .nil) .refl)
def m_Chip_need_page (m_self0 : ChipM) (page0 : Int) : Res Empty (Unit) := (m_is_within page0 ((0 : Int)) (((m_self0.stuff.length : Int) - (1 : Int)))).bind fun r1 => cond ((!r1)) ( .bad) ( .ok ())
def sp_Chip_need_page (K : PySem.W.Frag) : Sp := SpS fun vs pre k => ∃ (p_self0 : Addr) (x_self0 : ChipX) (m_self0 : ChipM) (page0 : Int), vs = [.ref p_self0, .int page0] ∧ pre = [chipO K p_self0 m_self0 x_self0] ∧ Out (m_Chip_need_page m_self0 page0) (fun r => k .non [chipO K p_self0 m_self0 x_self0]) (fun _ => False)
def t_Chip_need_page (K : PySem.W.Frag) : TS := tIfS (tNot (tB (tCall (sp_is_within K) [] E0 (tCons (tVar 1) (tCons (tC (.int (0))) (tCons (tOp rSubI (tCB (rLenV K) (tCons (tFld K (tVar 0) "stuff") (tNil))) (tC (.int (1)))) (tNil))))))) (tNever) (tNext)
theorem pure_Chip_need_page {K : PySem.W.Frag} {vs : List V} {H : Hp} {Q : VK} {E : XK} (T_Chip : TChip K) (hsp : sp_Chip_need_page K vs H Q E) : t_Chip_need_page K (endsOf Q) (start ["self", "page"] vs) H := by
  obtain ⟨pre, F, R, p_self0, x_self0, m_self0, page0, rfl, rfl, h⟩ := hsp.use
  unfold m_Chip_need_page at h
  unfold t_Chip_need_page
  with_reducible refine go_ifS ?_
  refine go_not <| go_B <| go_call <| go_cons <| go_var rfl <| go_cons <| go_c <| go_cons <| go_op <| go_CB <| go_cons <| go_fld <| go_var rfl <| getChip_stuff T_Chip R .here <| go_nil <| st_len R (hasChip_stuff .here) <| go_c <| go_I0 <| go_nil <| SpS.call R .nil ⟨page0, (0 : Int), ((m_self0.stuff.length : Int) - (1 : Int)), rfl, rfl, Out.use h fun r1 h H R => ?_⟩
  refine go_bl <| st_ite h (fun hc h => ?_) (fun hc h => ?_)
  · exact (h : False).elim
  · with_reducible refine go_next ?_
    exact h _ (R.fin (cs := [_]) (.cons .here .nil) .refl)
def m_Chip_need_power (m_self0 : ChipM) : Res Empty (Unit) := (m_Chip_is_dark m_self0).bind fun r1 => cond r1 ( .bad) ( .ok ())
def sp_Chip_need_power (K : PySem.W.Frag) : Sp := SpS fun vs pre k => ∃ (p_self0 : Addr) (x_self0 : ChipX) (m_self0 : ChipM), vs = [.ref p_self0] ∧ pre = [chipO K p_self0 m_self0 x_self0] ∧ Out (m_Chip_need_power m_self0) (fun r => k .non [chipO K p_self0 m_self0 x_self0]) (fun _ => False)
def t_Chip_need_power (K : PySem.W.Frag) : TS := tIfS (tB (tMeth (He.ga K "Chip") "is_dark" (sp_Chip_is_dark K) [] E0 (tVar 0) tNil)) (tNever) (tNext)
theorem pure_Chip_need_power {K : PySem.W.Frag} {vs : List V} {H : Hp} {Q : VK} {E : XK}  (hsp : sp_Chip_need_power K vs H Q E) : t_Chip_need_power K (endsOf Q) (start ["self"] vs) H := by
  obtain ⟨pre, F, R, p_self0, x_self0, m_self0, rfl, rfl, h⟩ := hsp.use
  unfold m_Chip_need_power at h
  unfold t_Chip_need_power
  with_reducible refine go_ifS ?_
  refine go_B <| go_meth <| go_var rfl <| methChip (fun _ _ _ _ _ _ _ _ _ _ => by kernel_rfl) R .here <| go_nil <| SpS.call R (.cons .here .nil) ⟨_, _, _, rfl, rfl, Out.use h fun r1 h H R => ?_⟩
  refine go_bl <| st_ite h (fun hc h => ?_) (fun hc h => ?_)
  · exact (h : False).elim
  · with_reducible refine go_next ?_
    exact h _ (R.fin (cs := [_]) (.cons .here .nil) .refl)
def m_Chip_need_good (m_self0 : ChipM) (block0 : Int) : Res Empty (Unit) := (ixL m_self0.broken block0).bind fun x1 => cond x1 ( .bad) ( .ok ())
def sp_Chip_need_good (K : PySem.W.Frag) : Sp := SpS fun vs pre k => ∃ (p_self0 : Addr) (x_self0 : ChipX) (m_self0 : ChipM) (block0 : Int), vs = [.ref p_self0, .int block0] ∧ pre = [chipO K p_self0 m_self0 x_self0] ∧ Out (m_Chip_need_good m_self0 block0) (fun r => k .non [chipO K p_self0 m_self0 x_self0]) (fun _ => False)
def t_Chip_need_good (K : PySem.W.Frag) : TS := tIfS (tB (tOp (rIxL K) (tFld K (tVar 0) "broken") (tVar 1))) (tNever) (tNext)
theorem pure_Chip_need_good {K : PySem.W.Frag} {vs : List V} {H : Hp} {Q : VK} {E : XK} (T_Chip : TChip K) (hsp : sp_Chip_need_good K vs H Q E) : t_Chip_need_good K (endsOf Q) (start ["self", "block"] vs) H := by
  obtain ⟨pre, F, R, p_self0, x_self0, m_self0, block0, rfl, rfl, h⟩ := hsp.use
  unfold m_Chip_need_good at h
  unfold t_Chip_need_good
  with_reducible refine go_ifS ?_
  refine go_B <| go_op <| go_fld <| go_var rfl <| getChip_broken T_Chip R .here <| go_var rfl <| st_ixB R (hasChip_broken .here) h fun x1 h => ?_
  refine go_bl <| st_ite h (fun hc h => ?_) (fun hc h => ?_)
  · exact (h : False).elim
  · with_reducible refine go_next ?_
    exact h _ (R.fin (cs := [_]) (.cons .here .nil) .refl)
def m_Chip_goes_well (m_self0 : ChipM) (block0 : Int) (worn0 : Bool) : Res Empty (Bool × ChipM) :=  (cond ((m_self0.left.isSome)) ((Res.ofO m_self0.left).bind fun x8 =>  .ok { m_self0 with left := some (x8 - (1 : Int)) }) ( .ok m_self0) : Res Empty (ChipM)).then_ fun s1 => (andR ((!worn0)) ((ixL s1.tried block0).bind fun x3 => (ixL s1.lasts block0).bind fun x4 => .ok ((!decide (x4 = some x3))))).then_ fun b5 => (augL s1.tried block0 fun x => x + (1 : Int)).bind fun ys6 => (setL (({ s1 with tried := ys6 }).broken) block0 ((!b5))).bind fun ys7 =>  .ok (b5, { { s1 with tried := ys6 } with broken := ys7 })
def sp_Chip_goes_well (K : PySem.W.Frag) : Sp := SpS fun vs pre k => ∃ (p_self0 : Addr) (x_self0 : ChipX) (m_self0 : ChipM) (block0 : Int) (worn0 : Bool), vs = [.ref p_self0, .int block0, .bl worn0] ∧ pre = [chipO K p_self0 m_self0 x_self0] ∧ Out (m_Chip_goes_well m_self0 block0 worn0) (fun r => k (.bl r.1) [chipO K p_self0 r.2 x_self0]) (fun _ => False)
def t_Chip_goes_well (K : PySem.W.Frag) : TS := tSeq (tIfS (tTest (tOp rNotN (tFld K (tVar 0) "left") (tC .non))) (sFldAug K (tVar 0) (tC (.int (1))) rSub "left") (tNext)) (tSeq (tAsg (tAndV (tNotV (tVar 2)) (tOp rNe (tOp (rIxL K) (tFld K (tVar 0) "tried") (tVar 1)) (tOp (rIxL K) (tFld K (tVar 0) "lasts") (tVar 1)))) (gName 3)) (tSeq (tAugS (tFld K (tVar 0) "tried") (tVar 1) (tC (.int (1))) (rIxL K) (ipI fun i j => i + j) rSetL) (tSeq (tAsg (tNotV (tVar 3)) (gSub (tFld K (tVar 0) "broken") (tVar 1) rSetL)) (tRet (tVar 3)))))
theorem pure_Chip_goes_well {K : PySem.W.Frag} {vs : List V} {H : Hp} {Q : VK} {E : XK} (T_Chip : TChip K) (hsp : sp_Chip_goes_well K vs H Q E) : t_Chip_goes_well K (endsOf Q) (start ["self", "block", "worn", "well"] vs) H := by
  obtain ⟨pre, F, R, p_self0, x_self0, m_self0, block0, worn0, rfl, rfl, h⟩ := hsp.use
  unfold m_Chip_goes_well at h
  unfold t_Chip_goes_well
  with_reducible refine go_seq ?_
  with_reducible refine go_ifS ?_
  refine go_test <| go_op <| go_fld <| go_var rfl <| getChip_left T_Chip R .here <| go_c <| st_notNO <| go_bl <| st_join (α := ChipM) (fun s1 σ L => ∃ (u2 : Option V), σ = [some (.ref p_self0), some (.int block0), some (.bl worn0), u2] ∧ L = chipO K p_self0 s1 x_self0 :: F) h (fun s1 σ H L R p h => ?_) (fun J hc h => ?_) (fun J hc h => ?_)
  · obtain ⟨u2, rfl, rfl⟩ := p
    with_reducible refine go_seq ?_
    with_reducible refine go_asg ?_
    refine gn_andV <| go_notV <| go_var rfl <| go_bl <| st_andVC R h (fun b5 H R h => ?_) (fun k h => ?_)
    rotate_left
    · refine go_op <| go_op <| go_fld <| go_var rfl <| getChip_tried T_Chip R .here <| go_var rfl <| st_ixI R (hasChip_tried .here) h fun x3 h => ?_
      refine go_op <| go_fld <| go_var rfl <| getChip_lasts T_Chip R .here <| go_var rfl <| st_ix R (hasChip_lasts .here) h fun x4 h => ?_
      refine st_neIO <| ?_
      exact k _ _ (R.fin (cs := [_]) (.cons .here .nil) .refl) h
    refine go_name <| ?_
    with_reducible refine go_seq ?_
    with_reducible refine go_augS ?_
    refine go_fld <| go_var rfl <| getChip_tried T_Chip R .here <| go_var rfl <| st_aug (g := fun i j => i + j) (n := (1 : Int)) R (mutChip_tried .here) h (fun ys6 H R h => ?_) (fun Q q => q)
    with_reducible refine go_seq ?_
    with_reducible refine go_asg ?_
    refine go_notV <| go_var rfl <| go_bl <| go_sub <| go_fld <| go_var rfl <| getChip_broken T_Chip R .here <| go_var rfl <| st_set (x := (!b5)) R (mutChip_broken .here) rfl h fun ys7 H R h => ?_
    with_reducible refine go_ret ?_
    refine go_var rfl <| ?_
    exact h _ (R.fin (cs := [_]) (.cons .here .nil) .refl)
  · with_reducible refine go_faug ?_
    refine go_var rfl <| ?_
    obtain ⟨x8, ho, h⟩ := Out.o h
    refine augChipSub_left (n := (1 : Int)) T_Chip R .here ho (fun Q q => q) fun H R => ?_
    exact J { m_self0 with left := some (x8 - (1 : Int)) } _ _ _ (R.fin (cs := [_]) (.cons .here .nil) .refl) ⟨_, rfl, rfl⟩ h
  · with_reducible refine go_next ?_
    exact J m_self0 _ _ _ (R.fin (cs := [_]) (.cons .here .nil) .refl) ⟨_, rfl, rfl⟩ h
def m_Chip_put (m_self0 : ChipM) (page0 : Int) (y_stuff0 : (T2 Int Int)) : Res Empty (ChipM) := (m_Chip_need_page m_self0 page0).bind fun r1 => (m_Chip_need_power m_self0).bind fun r2 => (divI page0 m_self0.pages).bind fun x3 => (m_Chip_need_good m_self0 x3).bind fun r4 => (ixL m_self0.stuff page0).bind fun x5 => oC x5 ((m_Chip_goes_well m_self0 x3 false).bind fun r8 => (appL r8.2.log ((T3.mk (("put" : Str)) page0 r8.1))).bind fun x10 =>  cond ((!r8.1)) ( .bad) ((setL (({ r8.2 with log := x10 }).stuff) page0 ((some y_stuff0))).bind fun ys11 =>  .ok { { r8.2 with log := x10 } with stuff := ys11 })) (fun y7 =>  .bad)
def sp_Chip_put (K : PySem.W.Frag) : Sp := SpS fun vs pre k => ∃ (p_self0 : Addr) (x_self0 : ChipX) (m_self0 : ChipM) (page0 : Int) (v_stuff0 : V) (y_stuff0 : (T2 Int Int)), vs = [.ref p_self0, .int page0, v_stuff0] ∧ pre = [chipO K p_self0 m_self0 x_self0, CF (y_stuff0 : (T2 Int Int)) v_stuff0] ∧ Out (m_Chip_put m_self0 page0 y_stuff0) (fun r => k .non [chipO K p_self0 r x_self0, CF (y_stuff0 : (T2 Int Int)) v_stuff0]) (fun _ => False)
def t_Chip_put (K : PySem.W.Frag) : TS := tSeq (tDrop (tMeth (He.ga K "Chip") "need_page" (sp_Chip_need_page K) [] E0 (tVar 0) (tCons (tVar 1) (tNil)))) (tSeq (tDrop (tMeth (He.ga K "Chip") "need_power" (sp_Chip_need_power K) [] E0 (tVar 0) tNil)) (tSeq (tAsg (tOp rDivI (tVar 1) (tFld K (tVar 0) "pages")) (gName 3)) (tSeq (tDrop (tMeth (He.ga K "Chip") "need_good" (sp_Chip_need_good K) [] E0 (tVar 0) (tCons (tVar 3) (tNil)))) (tSeq (tIfS (tTest (tOp rNotN (tOp (rIxL K) (tFld K (tVar 0) "stuff") (tVar 1)) (tC .non))) (tNever) (tNext)) (tSeq (tAsg (tMeth (He.ga K "Chip") "goes_well" (sp_Chip_goes_well K) [] E0 (tVar 0) (tCons (tVar 3) (tCons (tC (.bl false)) (tNil)))) (gName 4)) (tSeq (tDrop (tBM K "list" rAppend (tFld K (tVar 0) "log") (tCons (tTup (tCons (tC (.str "put")) (tCons (tVar 1) (tCons (tVar 4) (tNil))))) (tNil)))) (tSeq (tIfS (tNot (tB (tVar 4))) (tNever) (tNext)) (tAsg (tVar 2) (gSub (tFld K (tVar 0) "stuff") (tVar 1) rSetL)))))))))
theorem pure_Chip_put {K : PySem.W.Frag} {vs : List V} {H : Hp} {Q : VK} {E : XK} (T_Chip : TChip K) (hsp : sp_Chip_put K vs H Q E) : t_Chip_put K (endsOf Q) (start ["self", "page", "stuff", "block", "well"] vs) H := by
  obtain ⟨pre, F, R, p_self0, x_self0, m_self0, page0, v_stuff0, y_stuff0, rfl, rfl, h⟩ := hsp.use
  unfold m_Chip_put at h
  unfold t_Chip_put
  with_reducible refine go_seq ?_
  with_reducible refine go_drop ?_
  refine go_meth <| go_var rfl <| methChip (fun _ _ _ _ _ _ _ _ _ _ => by kernel_rfl) R .here <| go_cons <| go_var rfl <| go_nil <| SpS.call R (.cons .here .nil) ⟨_, _, _, page0, rfl, rfl, Out.use h fun r1 h H R => ?_⟩
  with_reducible refine go_seq ?_
  with_reducible refine go_drop ?_
  refine go_meth <| go_var rfl <| methChip (fun _ _ _ _ _ _ _ _ _ _ => by kernel_rfl) R .here <| go_nil <| SpS.call R (.cons .here .nil) ⟨_, _, _, rfl, rfl, Out.use h fun r2 h H R => ?_⟩
  with_reducible refine go_seq ?_
  with_reducible refine go_asg ?_
  refine go_op <| go_var rfl <| go_fld <| go_var rfl <| getChip_pages T_Chip R .here <| st_div h fun x3 h => ?_
  refine go_name <| ?_
  with_reducible refine go_seq ?_
  with_reducible refine go_drop ?_
  refine go_meth <| go_var rfl <| methChip (fun _ _ _ _ _ _ _ _ _ _ => by kernel_rfl) R .here <| go_cons <| go_var rfl <| go_nil <| SpS.call R (.cons .here .nil) ⟨_, _, _, x3, rfl, rfl, Out.use h fun r4 h H R => ?_⟩
  with_reducible refine go_seq ?_
  with_reducible refine go_ifS ?_
  refine go_test <| go_op <| go_op <| go_fld <| go_var rfl <| getChip_stuff T_Chip R .here <| go_var rfl <| st_ixF R (hasChip_stuff .here) h fun x5 v6 R h => ?_
  refine go_c <| ?_
  have hn := R.atC .here
  cases ho : x5 with
  | none =>
    rw [ho] at h
    rw [ho] at R hn
    obtain rfl := hn
    refine go_rNotN <| go_bl <| ite_f rfl ?_
    replace h := oC_none h
    with_reducible refine go_next ?_
    with_reducible refine go_seq ?_
    with_reducible refine go_asg ?_
    refine go_meth <| go_var rfl <| methChip (fun _ _ _ _ _ _ _ _ _ _ => by kernel_rfl) R (.there (.here)) <| go_cons <| go_var rfl <| go_cons <| go_c <| go_nil <| SpS.call R (.cons (.there (.here)) .nil) ⟨_, _, _, x3, false, rfl, rfl, Out.use h fun r8 h H R => ?_⟩
    refine go_name <| ?_
    with_reducible refine go_seq ?_
    with_reducible refine go_drop ?_
    refine go_bm <| go_fld <| go_var rfl <| getChip_log T_Chip R .here <| st_bmL R (hasChip_log .here) <| go_cons <| go_tup <| go_cons <| go_c <| go_cons <| go_var rfl <| go_cons <| go_var rfl <| go_nil <| st_mk3 (x := ("put" : Str)) (y := page0) (z := r8.1) R rfl rfl rfl fun a9 H R => ?_
    refine go_nil <| st_app (x := (T3.mk (("put" : Str)) page0 r8.1)) R (mutChip_log (.there (.here))) (R.atC .here) h fun x10 H R h => ?_
    with_reducible refine go_seq ?_
    with_reducible refine go_ifS ?_
    refine go_not <| go_B <| go_var rfl <| go_bl <| st_ite h (fun hc h => ?_) (fun hc h => ?_)
    · exact (h : False).elim
    · with_reducible refine go_next ?_
      with_reducible refine go_asg ?_
      refine go_var rfl <| go_sub <| go_fld <| go_var rfl <| getChip_stuff T_Chip R .here <| go_var rfl <| ?_
      replace R := R.wrap (.there (.there (.there (.here))))
      refine st_set (x := (some y_stuff0)) R (mutChip_stuff (.there (.here))) (R.atC .here) h fun ys11 H R h => ?_
      exact h _ (R.fin (cs := [_, _]) (.cons .here (.cons .here .nil)) (.skip (.skip (.refl))))
  | some y7 =>
    rw [ho] at h
    rw [ho] at R hn
    refine go_rNotN <| go_bl <| ite_t (by rw [decide_eq_false (fr_nn2 hn)]; rfl) ?_
    replace h := oC_some h
    exact (h : False).elim
def m_Chip_read (m_self0 : ChipM) (page0 : Int) : Res Empty ((Option (T2 Int Int))) := (m_Chip_need_page m_self0 page0).bind fun r1 => (m_Chip_need_power m_self0).bind fun r2 => (ixL m_self0.stuff page0).bind fun x3 => .ok x3
def sp_Chip_read (K : PySem.W.Frag) : Sp := SpS fun vs pre k => ∃ (p_self0 : Addr) (x_self0 : ChipX) (m_self0 : ChipM) (page0 : Int), vs = [.ref p_self0, .int page0] ∧ pre = [chipO K p_self0 m_self0 x_self0] ∧ Out (m_Chip_read m_self0 page0) (fun r => ∀ z1 : V, k (z1) [CF (r : (Option (T2 Int Int))) z1, chipO K p_self0 m_self0 x_self0]) (fun _ => False)
def t_Chip_read (K : PySem.W.Frag) : TS := tSeq (tDrop (tMeth (He.ga K "Chip") "need_page" (sp_Chip_need_page K) [] E0 (tVar 0) (tCons (tVar 1) (tNil)))) (tSeq (tDrop (tMeth (He.ga K "Chip") "need_power" (sp_Chip_need_power K) [] E0 (tVar 0) tNil)) (tRet (tOp (rIxL K) (tFld K (tVar 0) "stuff") (tVar 1))))
theorem pure_Chip_read {K : PySem.W.Frag} {vs : List V} {H : Hp} {Q : VK} {E : XK} (T_Chip : TChip K) (hsp : sp_Chip_read K vs H Q E) : t_Chip_read K (endsOf Q) (start ["self", "page"] vs) H := by
  obtain ⟨pre, F, R, p_self0, x_self0, m_self0, page0, rfl, rfl, h⟩ := hsp.use
  unfold m_Chip_read at h
  unfold t_Chip_read
  with_reducible refine go_seq ?_
  with_reducible refine go_drop ?_
  refine go_meth <| go_var rfl <| methChip (fun _ _ _ _ _ _ _ _ _ _ => by kernel_rfl) R .here <| go_cons <| go_var rfl <| go_nil <| SpS.call R (.cons .here .nil) ⟨_, _, _, page0, rfl, rfl, Out.use h fun r1 h H R => ?_⟩
  with_reducible refine go_seq ?_
  with_reducible refine go_drop ?_
  refine go_meth <| go_var rfl <| methChip (fun _ _ _ _ _ _ _ _ _ _ => by kernel_rfl) R .here <| go_nil <| SpS.call R (.cons .here .nil) ⟨_, _, _, rfl, rfl, Out.use h fun r2 h H R => ?_⟩
  with_reducible refine go_ret ?_
  refine go_op <| go_fld <| go_var rfl <| getChip_stuff T_Chip R .here <| go_var rfl <| st_ixF R (hasChip_stuff .here) h fun x3 v4 R h => ?_
  exact h _ _ (R.fin (cs := [_, _]) (.cons .here (.cons .here .nil)) .refl)
def m_Chip___init__ (blocks0 : Int) (pages0 : Int) (most0 : Int) (ills0 : Unit) : Res Empty (ChipM) := (m_is_within blocks0 ((2 : Int)) ((16 : Int))).bind fun r1 => (orR ((!r1)) ((m_is_within pages0 ((1 : Int)) ((16 : Int))).bind fun r2 => (orR ((!r2)) ((m_is_within most0 ((0 : Int)) ((1000000 : Int))).bind fun r3 => .ok ((!r3)))).then_ fun b4 => .ok b4)).then_ fun b5 => cond b5 ( .bad) (   (m_endurance blocks0 ills0).bind fun r6 => (mulI blocks0 pages0).bind fun x9 => (repL (([(none : (Option (T2 Int Int)))] : (List (Option (T2 Int Int))))) x9).bind fun x10 => (repL (([(0 : Int)] : (List Int))) blocks0).bind fun x13 => (repL (([(0 : Int)] : (List Int))) blocks0).bind fun x16 => (repL (([false] : (List Bool))) blocks0).bind fun x19 =>    .ok ({ blocks := blocks0, pages := pages0, most := most0, lasts := r6, stuff := x10, tried := x13, clearings := x16, broken := x19, left := (none : (Option Int)), log := ([] : (List (T3 Str Int Bool))) } : ChipM))
def sp_Chip___init__ (K : PySem.W.Frag) : Sp := SpS fun vs pre k => ∃ (p_self0 : Addr) (dx0 : Addr) (blocks0 : Int) (pages0 : Int) (most0 : Int) (ills0 : Unit), vs = [.ref p_self0, .int blocks0, .int pages0, .int most0, .non] ∧ pre = [(p_self0, raw (.ins (cChip K) dx0 []))] ∧ Out (m_Chip___init__ blocks0 pages0 most0 ills0) (fun r => ∀ x : ChipX, k .non [chipO K p_self0 r x]) (fun _ => False)
def t_Chip___init__ (K : PySem.W.Frag) : TS := tSeq (tIfS (tOr (tNot (tB (tCall (sp_is_within K) [] E0 (tCons (tVar 1) (tCons (tC (.int (2))) (tCons (tC (.int (16))) (tNil))))))) (tOr (tNot (tB (tCall (sp_is_within K) [] E0 (tCons (tVar 2) (tCons (tC (.int (1))) (tCons (tC (.int (16))) (tNil))))))) (tNot (tB (tCall (sp_is_within K) [] E0 (tCons (tVar 3) (tCons (tC (.int (0))) (tCons (tC (.int (1000000))) (tNil))))))))) (tNever) (tNext)) (tSeq (sFld K (tVar 0) (tVar 1) "blocks") (tSeq (sFld K (tVar 0) (tVar 2) "pages") (tSeq (sFld K (tVar 0) (tVar 3) "most") (tSeq (sFld K (tVar 0) (tCall (sp_endurance K) [] E0 (tCons (tVar 1) (tCons (tVar 4) (tNil)))) "lasts") (tSeq (sFld K (tVar 0) (tOp rRep (tLst (tCons (tC .non) (tNil))) (tOp rMulI (tVar 1) (tVar 2))) "stuff") (tSeq (sFld K (tVar 0) (tOp rRep (tLst (tCons (tC (.int (0))) (tNil))) (tVar 1)) "tried") (tSeq (sFld K (tVar 0) (tOp rRep (tLst (tCons (tC (.int (0))) (tNil))) (tVar 1)) "clearings") (tSeq (sFld K (tVar 0) (tOp rRep (tLst (tCons (tC (.bl false)) (tNil))) (tVar 1)) "broken") (tSeq (sFld K (tVar 0) (tC .non) "left") (sFld K (tVar 0) (tLst (tNil)) "log"))))))))))
theorem pure_Chip___init__ {K : PySem.W.Frag} {vs : List V} {H : Hp} {Q : VK} {E : XK} (T_Chip : TChip K) (hsp : sp_Chip___init__ K vs H Q E) : t_Chip___init__ K (endsOf Q) (start ["self", "blocks", "pages", "most", "ills"] vs) H := by
  obtain ⟨pre, F, R, p_self0, dx0, blocks0, pages0, most0, ills0, rfl, rfl, h⟩ := hsp.use
  unfold m_Chip___init__ at h
  unfold t_Chip___init__
  with_reducible refine go_seq ?_
  with_reducible refine go_ifS ?_
  refine gn_or <| go_not <| go_B <| go_call <| go_cons <| go_var rfl <| go_cons <| go_c <| go_cons <| go_c <| go_nil <| SpS.call R .nil ⟨blocks0, (2 : Int), (16 : Int), rfl, rfl, Out.use h fun r1 h H R => ?_⟩
  refine go_bl <| st_orC R h (fun b5 H R h => ?_) (fun k h => ?_)
  rotate_left
  · refine gn_or <| go_not <| go_B <| go_call <| go_cons <| go_var rfl <| go_cons <| go_c <| go_cons <| go_c <| go_nil <| SpS.call R .nil ⟨pages0, (1 : Int), (16 : Int), rfl, rfl, Out.use h fun r2 h H R => ?_⟩
    refine go_bl <| st_orC R h (fun b4 H R h => ?_) (fun k h => ?_)
    rotate_left
    · refine go_not <| go_B <| go_call <| go_cons <| go_var rfl <| go_cons <| go_c <| go_cons <| go_c <| go_nil <| SpS.call R .nil ⟨most0, (0 : Int), (1000000 : Int), rfl, rfl, Out.use h fun r3 h H R => ?_⟩
      refine go_bl <| ?_
      exact k _ _ (R.fin (cs := [_]) (.cons .here .nil) .refl) h
    exact k _ _ (R.fin (cs := [_]) (.cons .here .nil) .refl) h
  refine st_ite h (fun hc h => ?_) (fun hc h => ?_)
  · exact (h : False).elim
  · with_reducible refine go_next ?_
    with_reducible refine go_seq ?_
    with_reducible refine go_sfld ?_
    refine go_var rfl <| go_var rfl <| sfld_at T_Chip R .here (by decide +kernel) (by show 0 < 1000; decide) (gs := [("blocks", .int blocks0)]) (by kernel_rfl) fun H R => ?_
    with_reducible refine go_seq ?_
    with_reducible refine go_sfld ?_
    refine go_var rfl <| go_var rfl <| sfld_at T_Chip R .here (by decide +kernel) (by show 1 < 1000; decide) (gs := [("blocks", .int blocks0), ("pages", .int pages0)]) (by kernel_rfl) fun H R => ?_
    with_reducible refine go_seq ?_
    with_reducible refine go_sfld ?_
    refine go_var rfl <| go_var rfl <| sfld_at T_Chip R .here (by decide +kernel) (by show 2 < 1000; decide) (gs := [("blocks", .int blocks0), ("pages", .int pages0), ("most", .int most0)]) (by kernel_rfl) fun H R => ?_
    with_reducible refine go_seq ?_
    with_reducible refine go_sfld ?_
    refine go_call <| go_cons <| go_var rfl <| go_cons <| go_var rfl <| go_nil <| SpS.call R .nil ⟨blocks0, ills0, rfl, rfl, Out.use h fun r6 h a7 H R => ?_⟩
    refine go_var rfl <| sfld_at T_Chip R (.there (.here)) (by decide +kernel) (by show 3 < 1000; decide) (gs := [("blocks", .int blocks0), ("pages", .int pages0), ("most", .int most0), ("lasts", .ref a7)]) (by kernel_rfl) fun H R => ?_
    with_reducible refine go_seq ?_
    with_reducible refine go_sfld ?_
    refine go_op <| go_lst <| go_cons <| go_c <| go_nil <| st_new (xs := ([(none : (Option (T2 Int Int)))] : (List (Option (T2 Int Int))))) R (.cons rfl .nil) (by show 1 ≤ 1000; decide) fun a8 H R => ?_
    refine go_op <| go_var rfl <| go_var rfl <| st_mul h fun x9 h => ?_
    refine st_rep R (MutL.of .here) h fun x10 a11 H R h => ?_
    refine go_var rfl <| sfld_at T_Chip R (.there (.there (.here))) (by decide +kernel) (by show 4 < 1000; decide) (gs := [("blocks", .int blocks0), ("pages", .int pages0), ("most", .int most0), ("lasts", .ref a7), ("stuff", .ref a11)]) (by kernel_rfl) fun H R => ?_
    with_reducible refine go_seq ?_
    with_reducible refine go_sfld ?_
    refine go_op <| go_lst <| go_cons <| go_c <| go_nil <| st_new (xs := ([(0 : Int)] : (List Int))) R (.cons rfl .nil) (by show 1 ≤ 1000; decide) fun a12 H R => ?_
    refine go_var rfl <| st_rep R (MutL.of .here) h fun x13 a14 H R h => ?_
    refine go_var rfl <| sfld_at T_Chip R (.there (.there (.here))) (by decide +kernel) (by show 5 < 1000; decide) (gs := [("blocks", .int blocks0), ("pages", .int pages0), ("most", .int most0), ("lasts", .ref a7), ("stuff", .ref a11), ("tried", .ref a14)]) (by kernel_rfl) fun H R => ?_
    with_reducible refine go_seq ?_
    with_reducible refine go_sfld ?_
    refine go_op <| go_lst <| go_cons <| go_c <| go_nil <| st_new (xs := ([(0 : Int)] : (List Int))) R (.cons rfl .nil) (by show 1 ≤ 1000; decide) fun a15 H R => ?_
    refine go_var rfl <| st_rep R (MutL.of .here) h fun x16 a17 H R h => ?_
    refine go_var rfl <| sfld_at T_Chip R (.there (.there (.here))) (by decide +kernel) (by show 6 < 1000; decide) (gs := [("blocks", .int blocks0), ("pages", .int pages0), ("most", .int most0), ("lasts", .ref a7), ("stuff", .ref a11), ("tried", .ref a14), ("clearings", .ref a17)]) (by kernel_rfl) fun H R => ?_
    with_reducible refine go_seq ?_
    with_reducible refine go_sfld ?_
    refine go_op <| go_lst <| go_cons <| go_c <| go_nil <| st_new (xs := ([false] : (List Bool))) R (.cons rfl .nil) (by show 1 ≤ 1000; decide) fun a18 H R => ?_
    refine go_var rfl <| st_rep R (MutL.of .here) h fun x19 a20 H R h => ?_
    refine go_var rfl <| sfld_at T_Chip R (.there (.there (.here))) (by decide +kernel) (by show 7 < 1000; decide) (gs := [("blocks", .int blocks0), ("pages", .int pages0), ("most", .int most0), ("lasts", .ref a7), ("stuff", .ref a11), ("tried", .ref a14), ("clearings", .ref a17), ("broken", .ref a20)]) (by kernel_rfl) fun H R => ?_
    with_reducible refine go_seq ?_
    with_reducible refine go_sfld ?_
    refine go_c <| go_var rfl <| sfld_at T_Chip R .here (by decide +kernel) (by show 8 < 1000; decide) (gs := [("blocks", .int blocks0), ("pages", .int pages0), ("most", .int most0), ("lasts", .ref a7), ("stuff", .ref a11), ("tried", .ref a14), ("clearings", .ref a17), ("broken", .ref a20), ("left", Sc.val ((none : (Option Int))))]) (by kernel_rfl) fun H R => ?_
    with_reducible refine go_sfld ?_
    refine go_lst <| go_nil <| st_new (xs := ([] : (List (T3 Str Int Bool)))) R .nil (by show 0 ≤ 1000; decide) fun a21 H R => ?_
    refine go_var rfl <| sfld_at T_Chip R (.there (.here)) (by decide +kernel) (by show 9 < 1000; decide) (gs := [("blocks", .int blocks0), ("pages", .int pages0), ("most", .int most0), ("lasts", .ref a7), ("stuff", .ref a11), ("tried", .ref a14), ("clearings", .ref a17), ("broken", .ref a20), ("left", Sc.val ((none : (Option Int)))), ("log", .ref a21)]) (by kernel_rfl) fun H R => ?_
    replace R : Rel _ (chipO K p_self0 ({ blocks := blocks0, pages := pages0, most := most0, lasts := r6, stuff := x10, tried := x13, clearings := x16, broken := x19, left := (none : (Option Int)), log := ([] : (List (T3 Str Int Bool))) } : ChipM) ⟨dx0, a7, a11, a14, a17, a20, a21⟩ :: _) := obj_close (cs := chipC K p_self0 ({ blocks := blocks0, pages := pages0, most := most0, lasts := r6, stuff := x10, tried := x13, clearings := x16, broken := x19, left := (none : (Option Int)), log := ([] : (List (T3 Str Int Bool))) } : ChipM) ⟨dx0, a7, a11, a14, a17, a20, a21⟩) (R.sels (.cons .here (.cons (.there (.there (.there (.there (.there (.there (.there (.there (.there (.here)))))))))) (.cons (.there (.there (.there (.there (.there (.there (.there (.here)))))))) (.cons (.there (.there (.there (.there (.there (.here)))))) (.cons (.there (.there (.there (.here)))) (.cons (.there (.here)) (.cons .here .nil))))))))
    exact h _ _ (R.fin (cs := [_]) (.cons .here .nil) (.skip (.skip (.skip (.skip (.refl))))))
def m_Book___init__ (blocks0 : Int) (pages0 : Int) : Res Empty (BookM) :=    (mulI blocks0 pages0).bind fun x3 => (repL (([(none : (Option Int))] : (List (Option Int)))) x3).bind fun x4 => (repL (([(0 : Int)] : (List Int))) blocks0).bind fun x7 => (repL (([(0 : Int)] : (List Int))) blocks0).bind fun x10 => (repL (([(0 : Int)] : (List Int))) blocks0).bind fun x13 =>   .ok ({ blocks := blocks0, pages := pages0, whr := ([] : (List (Int × Int))), names := x4, live := x7, filled := x10, born := x13, stamp := (1 : Int) } : BookM)
def sp_Book___init__ (K : PySem.W.Frag) : Sp := SpS fun vs pre k => ∃ (p_self0 : Addr) (dx0 : Addr) (blocks0 : Int) (pages0 : Int), vs = [.ref p_self0, .int blocks0, .int pages0] ∧ pre = [(p_self0, raw (.ins (cBook K) dx0 []))] ∧ Out (m_Book___init__ blocks0 pages0) (fun r => ∀ x : BookX, k .non [bookO K p_self0 r x]) (fun _ => False)
def t_Book___init__ (K : PySem.W.Frag) : TS := tSeq (sFld K (tVar 0) (tVar 1) "blocks") (tSeq (sFld K (tVar 0) (tVar 2) "pages") (tSeq (sFld K (tVar 0) (tDNewK) "where") (tSeq (sFld K (tVar 0) (tOp rRep (tLst (tCons (tC .non) (tNil))) (tOp rMulI (tVar 1) (tVar 2))) "names") (tSeq (sFld K (tVar 0) (tOp rRep (tLst (tCons (tC (.int (0))) (tNil))) (tVar 1)) "live") (tSeq (sFld K (tVar 0) (tOp rRep (tLst (tCons (tC (.int (0))) (tNil))) (tVar 1)) "filled") (tSeq (sFld K (tVar 0) (tOp rRep (tLst (tCons (tC (.int (0))) (tNil))) (tVar 1)) "born") (sFld K (tVar 0) (tC (.int (1))) "stamp")))))))
theorem pure_Book___init__ {K : PySem.W.Frag} {vs : List V} {H : Hp} {Q : VK} {E : XK} (T_Book : TBook K) (hsp : sp_Book___init__ K vs H Q E) : t_Book___init__ K (endsOf Q) (start ["self", "blocks", "pages"] vs) H := by
  obtain ⟨pre, F, R, p_self0, dx0, blocks0, pages0, rfl, rfl, h⟩ := hsp.use
  unfold m_Book___init__ at h
  unfold t_Book___init__
  with_reducible refine go_seq ?_
  with_reducible refine go_sfld ?_
  refine go_var rfl <| go_var rfl <| sfld_at T_Book R .here (by decide +kernel) (by show 0 < 1000; decide) (gs := [("blocks", .int blocks0)]) (by kernel_rfl) fun H R => ?_
  with_reducible refine go_seq ?_
  with_reducible refine go_sfld ?_
  refine go_var rfl <| go_var rfl <| sfld_at T_Book R .here (by decide +kernel) (by show 1 < 1000; decide) (gs := [("blocks", .int blocks0), ("pages", .int pages0)]) (by kernel_rfl) fun H R => ?_
  with_reducible refine go_seq ?_
  with_reducible refine go_sfld ?_
  refine st_dnew (κ := Int) (α := Int) R fun a1 H R => ?_
  refine go_var rfl <| sfld_at T_Book R (.there (.here)) (by decide +kernel) (by show 2 < 1000; decide) (gs := [("blocks", .int blocks0), ("pages", .int pages0), ("where", .ref a1)]) (by kernel_rfl) fun H R => ?_
  with_reducible refine go_seq ?_
  with_reducible refine go_sfld ?_
  refine go_op <| go_lst <| go_cons <| go_c <| go_nil <| st_new (xs := ([(none : (Option Int))] : (List (Option Int)))) R (.cons (Sc.sc.mpr rfl) .nil) (by show 1 ≤ 1000; decide) fun a2 H R => ?_
  refine go_op <| go_var rfl <| go_var rfl <| st_mul h fun x3 h => ?_
  refine st_rep R (MutL.of .here) h fun x4 a5 H R h => ?_
  refine go_var rfl <| sfld_at T_Book R (.there (.there (.here))) (by decide +kernel) (by show 3 < 1000; decide) (gs := [("blocks", .int blocks0), ("pages", .int pages0), ("where", .ref a1), ("names", .ref a5)]) (by kernel_rfl) fun H R => ?_
  with_reducible refine go_seq ?_
  with_reducible refine go_sfld ?_
  refine go_op <| go_lst <| go_cons <| go_c <| go_nil <| st_new (xs := ([(0 : Int)] : (List Int))) R (.cons rfl .nil) (by show 1 ≤ 1000; decide) fun a6 H R => ?_
  refine go_var rfl <| st_rep R (MutL.of .here) h fun x7 a8 H R h => ?_
  refine go_var rfl <| sfld_at T_Book R (.there (.there (.here))) (by decide +kernel) (by show 4 < 1000; decide) (gs := [("blocks", .int blocks0), ("pages", .int pages0), ("where", .ref a1), ("names", .ref a5), ("live", .ref a8)]) (by kernel_rfl) fun H R => ?_
  with_reducible refine go_seq ?_
  with_reducible refine go_sfld ?_
  refine go_op <| go_lst <| go_cons <| go_c <| go_nil <| st_new (xs := ([(0 : Int)] : (List Int))) R (.cons rfl .nil) (by show 1 ≤ 1000; decide) fun a9 H R => ?_
  refine go_var rfl <| st_rep R (MutL.of .here) h fun x10 a11 H R h => ?_
  refine go_var rfl <| sfld_at T_Book R (.there (.there (.here))) (by decide +kernel) (by show 5 < 1000; decide) (gs := [("blocks", .int blocks0), ("pages", .int pages0), ("where", .ref a1), ("names", .ref a5), ("live", .ref a8), ("filled", .ref a11)]) (by kernel_rfl) fun H R => ?_
  with_reducible refine go_seq ?_
  with_reducible refine go_sfld ?_
  refine go_op <| go_lst <| go_cons <| go_c <| go_nil <| st_new (xs := ([(0 : Int)] : (List Int))) R (.cons rfl .nil) (by show 1 ≤ 1000; decide) fun a12 H R => ?_
  refine go_var rfl <| st_rep R (MutL.of .here) h fun x13 a14 H R h => ?_
  refine go_var rfl <| sfld_at T_Book R (.there (.there (.here))) (by decide +kernel) (by show 6 < 1000; decide) (gs := [("blocks", .int blocks0), ("pages", .int pages0), ("where", .ref a1), ("names", .ref a5), ("live", .ref a8), ("filled", .ref a11), ("born", .ref a14)]) (by kernel_rfl) fun H R => ?_
  with_reducible refine go_sfld ?_
  refine go_c <| go_var rfl <| sfld_at T_Book R .here (by decide +kernel) (by show 7 < 1000; decide) (gs := [("blocks", .int blocks0), ("pages", .int pages0), ("where", .ref a1), ("names", .ref a5), ("live", .ref a8), ("filled", .ref a11), ("born", .ref a14), ("stamp", .int ((1 : Int)))]) (by kernel_rfl) fun H R => ?_
  replace R : Rel _ (bookO K p_self0 ({ blocks := blocks0, pages := pages0, whr := ([] : (List (Int × Int))), names := x4, live := x7, filled := x10, born := x13, stamp := (1 : Int) } : BookM) ⟨dx0, a1, a5, a8, a11, a14⟩ :: _) := obj_close (cs := bookC K p_self0 ({ blocks := blocks0, pages := pages0, whr := ([] : (List (Int × Int))), names := x4, live := x7, filled := x10, born := x13, stamp := (1 : Int) } : BookM) ⟨dx0, a1, a5, a8, a11, a14⟩) (R.sels (.cons .here (.cons (.there (.there (.there (.there (.there (.there (.there (.there (.here))))))))) (.cons (.there (.there (.there (.there (.there (.there (.here))))))) (.cons (.there (.there (.there (.there (.here))))) (.cons (.there (.there (.here))) (.cons .here .nil)))))))
  exact h _ _ (R.fin (cs := [_]) (.cons .here .nil) (.skip (.skip (.skip (.skip (.refl))))))
def m_Book_start_at (m_self0 : BookM) (stamp0 : Int) : Res Empty (BookM) :=   .ok { m_self0 with stamp := stamp0 }
def sp_Book_start_at (K : PySem.W.Frag) : Sp := SpS fun vs pre k => ∃ (p_self0 : Addr) (x_self0 : BookX) (m_self0 : BookM) (stamp0 : Int), vs = [.ref p_self0, .int stamp0] ∧ pre = [bookO K p_self0 m_self0 x_self0] ∧ Out (m_Book_start_at m_self0 stamp0) (fun r => k .non [bookO K p_self0 r x_self0]) (fun _ => False)
def t_Book_start_at (K : PySem.W.Frag) : TS := sFld K (tVar 0) (tVar 1) "stamp"
theorem pure_Book_start_at {K : PySem.W.Frag} {vs : List V} {H : Hp} {Q : VK} {E : XK} (T_Book : TBook K) (hsp : sp_Book_start_at K vs H Q E) : t_Book_start_at K (endsOf Q) (start ["self", "stamp"] vs) H := by
  obtain ⟨pre, F, R, p_self0, x_self0, m_self0, stamp0, rfl, rfl, h⟩ := hsp.use
  unfold m_Book_start_at at h
  unfold t_Book_start_at
  with_reducible refine go_sfld ?_
  refine go_var rfl <| go_var rfl <| setBook_stamp T_Book R .here fun H R => ?_
  exact h _ (R.fin (cs := [_]) (.cons .here .nil) .refl)
def m_Book_forget (m_self0 : BookM) (name0 : Int) : Res Empty (BookM) :=  cond ((dLook m_self0.whr name0).isSome) ((getD_ m_self0.whr name0).bind fun x1 => (setL (({ m_self0 with whr := (dDrop m_self0.whr name0) }).names) x1 ((none : (Option Int)))).bind fun ys2 => (divI x1 (({ { m_self0 with whr := (dDrop m_self0.whr name0) } with names := ys2 }).pages)).bind fun x3 => (augL (({ { m_self0 with whr := (dDrop m_self0.whr name0) } with names := ys2 }).live) x3 fun x => x - (1 : Int)).bind fun ys4 =>  .ok { { { m_self0 with whr := (dDrop m_self0.whr name0) } with names := ys2 } with live := ys4 }) ( .ok m_self0)
def sp_Book_forget (K : PySem.W.Frag) : Sp := SpS fun vs pre k => ∃ (p_self0 : Addr) (x_self0 : BookX) (m_self0 : BookM) (name0 : Int), vs = [.ref p_self0, .int name0] ∧ pre = [bookO K p_self0 m_self0 x_self0] ∧ Out (m_Book_forget m_self0 name0) (fun r => k .non [bookO K p_self0 r x_self0]) (fun _ => False)
def t_Book_forget (K : PySem.W.Frag) : TS := tIfS (tB (tDIn (tVar 1) (tFld K (tVar 0) "where"))) (tSeq (tAsg (tDPop1 (tFld K (tVar 0) "where") (tVar 1)) (gName 2)) (tSeq (tAsg (tC .non) (gSub (tFld K (tVar 0) "names") (tVar 2) rSetL)) (tAugS (tFld K (tVar 0) "live") (tOp rDivI (tVar 2) (tFld K (tVar 0) "pages")) (tC (.int (1))) (rIxL K) (ipI fun i j => i - j) rSetL))) (tNext)
theorem pure_Book_forget {K : PySem.W.Frag} {vs : List V} {H : Hp} {Q : VK} {E : XK} (T_Book : TBook K) (hsp : sp_Book_forget K vs H Q E) : t_Book_forget K (endsOf Q) (start ["self", "name", "page"] vs) H := by
  obtain ⟨pre, F, R, p_self0, x_self0, m_self0, name0, rfl, rfl, h⟩ := hsp.use
  unfold m_Book_forget at h
  unfold t_Book_forget
  with_reducible refine go_ifS ?_
  refine go_B <| go_din <| go_var rfl <| go_fld <| go_var rfl <| getBook_where T_Book R .here <| st_din R (hasBook_where .here) rfl <| go_bl <| st_ite h (fun hc h => ?_) (fun hc h => ?_)
  · with_reducible refine go_seq ?_
    with_reducible refine go_asg ?_
    refine go_dpop <| go_fld <| go_var rfl <| getBook_where T_Book R .here <| st_dpopA R (hasBook_where .here) <| go_var rfl <| st_dpop R (mutBook_where .here) rfl h fun x1 H R h => ?_
    refine go_name <| ?_
    with_reducible refine go_seq ?_
    with_reducible refine go_asg ?_
    refine go_c <| go_sub <| go_fld <| go_var rfl <| getBook_names T_Book R .here <| go_var rfl <| st_set (x := (none : (Option Int))) R (mutBook_names .here) (Sc.sc.mpr rfl) h fun ys2 H R h => ?_
    with_reducible refine go_augS ?_
    refine go_fld <| go_var rfl <| getBook_live T_Book R .here <| go_op <| go_var rfl <| go_fld <| go_var rfl <| getBook_pages T_Book R .here <| st_div h fun x3 h => ?_
    refine st_aug (g := fun i j => i - j) (n := (1 : Int)) R (mutBook_live .here) h (fun ys4 H R h => ?_) (fun Q q => q)
    exact h _ (R.fin (cs := [_]) (.cons .here .nil) .refl)
  · with_reducible refine go_next ?_
    exact h _ (R.fin (cs := [_]) (.cons .here .nil) .refl)
def m_Book_note (m_self0 : BookM) (page0 : Int) (name0 : Int) : Res Empty (BookM) := (m_Book_forget m_self0 name0).bind fun r1 => (divI page0 r1.pages).bind fun x2 => (ixL r1.filled x2).bind fun x3 => (cond ((decide (x3 = (0 : Int)))) ((setL r1.born x2 r1.stamp).bind fun ys9 =>  .ok { r1 with born := ys9 }) ( .ok r1) : Res Empty (BookM)).then_ fun s4 => (augL s4.filled x2 fun x => x + (1 : Int)).bind fun ys5 => (augL (({ s4 with filled := ys5 }).live) x2 fun x => x + (1 : Int)).bind fun ys6 => (setL (({ { s4 with filled := ys5 } with live := ys6 }).names) page0 ((some name0))).bind fun ys7 => (putD_ (({ { { s4 with filled := ys5 } with live := ys6 } with names := ys7 }).whr) name0 page0).bind fun x8 =>   .ok { { { { { s4 with filled := ys5 } with live := ys6 } with names := ys7 } with whr := x8 } with stamp := ({ { { { s4 with filled := ys5 } with live := ys6 } with names := ys7 } with whr := x8 }).stamp + (1 : Int) }
def sp_Book_note (K : PySem.W.Frag) : Sp := SpS fun vs pre k => ∃ (p_self0 : Addr) (x_self0 : BookX) (m_self0 : BookM) (page0 : Int) (name0 : Int), vs = [.ref p_self0, .int page0, .int name0] ∧ pre = [bookO K p_self0 m_self0 x_self0] ∧ Out (m_Book_note m_self0 page0 name0) (fun r => k .non [bookO K p_self0 r x_self0]) (fun _ => False)
def t_Book_note (K : PySem.W.Frag) : TS := tSeq (tDrop (tMeth (He.ga K "Book") "forget" (sp_Book_forget K) [] E0 (tVar 0) (tCons (tVar 2) (tNil)))) (tSeq (tAsg (tOp rDivI (tVar 1) (tFld K (tVar 0) "pages")) (gName 3)) (tSeq (tIfS (tTest (tOp rEq (tOp (rIxL K) (tFld K (tVar 0) "filled") (tVar 3)) (tC (.int (0))))) (tAsg (tFld K (tVar 0) "stamp") (gSub (tFld K (tVar 0) "born") (tVar 3) rSetL)) (tNext)) (tSeq (tAugS (tFld K (tVar 0) "filled") (tVar 3) (tC (.int (1))) (rIxL K) (ipI fun i j => i + j) rSetL) (tSeq (tAugS (tFld K (tVar 0) "live") (tVar 3) (tC (.int (1))) (rIxL K) (ipI fun i j => i + j) rSetL) (tSeq (tAsg (tVar 2) (gSub (tFld K (tVar 0) "names") (tVar 1) rSetL)) (tSeq (sDPut (tFld K (tVar 0) "where") (tVar 2) (tVar 1)) (sFldAug K (tVar 0) (tC (.int (1))) rAdd "stamp")))))))
theorem pure_Book_note {K : PySem.W.Frag} {vs : List V} {H : Hp} {Q : VK} {E : XK} (T_Book : TBook K) (hsp : sp_Book_note K vs H Q E) : t_Book_note K (endsOf Q) (start ["self", "page", "name", "block"] vs) H := by
  obtain ⟨pre, F, R, p_self0, x_self0, m_self0, page0, name0, rfl, rfl, h⟩ := hsp.use
  unfold m_Book_note at h
  unfold t_Book_note
  with_reducible refine go_seq ?_
  with_reducible refine go_drop ?_
  refine go_meth <| go_var rfl <| methBook (fun _ _ _ _ _ _ _ _ => by kernel_rfl) R .here <| go_cons <| go_var rfl <| go_nil <| SpS.call R (.cons .here .nil) ⟨_, _, _, name0, rfl, rfl, Out.use h fun r1 h H R => ?_⟩
  with_reducible refine go_seq ?_
  with_reducible refine go_asg ?_
  refine go_op <| go_var rfl <| go_fld <| go_var rfl <| getBook_pages T_Book R .here <| st_div h fun x2 h => ?_
  refine go_name <| ?_
  with_reducible refine go_seq ?_
  with_reducible refine go_ifS ?_
  refine go_test <| go_op <| go_op <| go_fld <| go_var rfl <| getBook_filled T_Book R .here <| go_var rfl <| st_ixI R (hasBook_filled .here) h fun x3 h => ?_
  refine go_c <| st_eqI <| go_bl <| st_join (α := BookM) (fun s4 σ L => σ = [some (.ref p_self0), some (.int page0), some (.int name0), some (.int x2)] ∧ L = bookO K p_self0 s4 x_self0 :: F) h (fun s4 σ H L R p h => ?_) (fun J hc h => ?_) (fun J hc h => ?_)
  · obtain ⟨rfl, rfl⟩ := p
    with_reducible refine go_seq ?_
    with_reducible refine go_augS ?_
    refine go_fld <| go_var rfl <| getBook_filled T_Book R .here <| go_var rfl <| st_aug (g := fun i j => i + j) (n := (1 : Int)) R (mutBook_filled .here) h (fun ys5 H R h => ?_) (fun Q q => q)
    with_reducible refine go_seq ?_
    with_reducible refine go_augS ?_
    refine go_fld <| go_var rfl <| getBook_live T_Book R .here <| go_var rfl <| st_aug (g := fun i j => i + j) (n := (1 : Int)) R (mutBook_live .here) h (fun ys6 H R h => ?_) (fun Q q => q)
    with_reducible refine go_seq ?_
    with_reducible refine go_asg ?_
    refine go_var rfl <| go_sub <| go_fld <| go_var rfl <| getBook_names T_Book R .here <| go_var rfl <| st_set (x := (some name0)) R (mutBook_names .here) (Sc.sc.mpr rfl) h fun ys7 H R h => ?_
    with_reducible refine go_seq ?_
    with_reducible refine go_dput ?_
    refine go_var rfl <| go_cf <| go_fld <| go_var rfl <| getBook_where T_Book R .here <| go_var rfl <| st_dput (x := page0) R (mutBook_where .here) rfl rfl h fun x8 H R h => ?_
    with_reducible refine go_faug ?_
    refine go_var rfl <| augBookAdd_stamp (n := (1 : Int)) T_Book R .here (fun Q q => q) fun H R => ?_
    exact h _ (R.fin (cs := [_]) (.cons .here .nil) .refl)
  · with_reducible refine go_asg ?_
    refine go_fld <| go_var rfl <| getBook_stamp T_Book R .here <| go_sub <| go_fld <| go_var rfl <| getBook_born T_Book R .here <| go_var rfl <| st_set (x := r1.stamp) R (mutBook_born .here) rfl h fun ys9 H R h => ?_
    exact J { r1 with born := ys9 } _ _ _ (R.fin (cs := [_]) (.cons .here .nil) .refl) ⟨rfl, rfl⟩ h
  · with_reducible refine go_next ?_
    exact J r1 _ _ _ (R.fin (cs := [_]) (.cons .here .nil) .refl) ⟨rfl, rfl⟩ h
def m_rows_by_stamp (m_chip0 : ChipM) : Res Empty ((List (T4 Int Int Int Int))) :=  (mulI m_chip0.blocks m_chip0.pages).bind fun x2 => (rng1 x2).bind fun x3 => (foldR (fun (s4 : (List (T4 Int Int Int Int))) (x7 : Int) => ((m_Chip_read m_chip0 x7).bind fun r9 =>  oC r9 ( .ok s4) (fun y11 => (m_stamp_of y11.a).bind fun r13 => (m_name_of y11.a).bind fun r15 => (appL s4 ((T4.mk r13 x7 r15 y11.b))).bind fun x18 =>  .ok x18) : Res Empty _)) ([] : (List (T4 Int Int Int Int))) x3).then_ fun s4 => (sortT_ s4).bind fun x19 => .ok x19
def sp_rows_by_stamp (K : PySem.W.Frag) : Sp := SpS fun vs pre k => ∃ (p_chip0 : Addr) (x_chip0 : ChipX) (m_chip0 : ChipM), vs = [.ref p_chip0] ∧ pre = [chipO K p_chip0 m_chip0 x_chip0] ∧ Out (m_rows_by_stamp m_chip0) (fun r => ∀ z1 : Addr, k (.ref z1) [(z1, lsF (r : (List (T4 Int Int Int Int)))), chipO K p_chip0 m_chip0 x_chip0]) (fun _ => False)
def t_rows_by_stamp (K : PySem.W.Frag) : TS := tSeq (tAsg (tLst (tNil)) (gName 1)) (tSeq (tFor (iRng1 (tCons (tOp rMulI (tFld K (tVar 0) "blocks") (tFld K (tVar 0) "pages")) (tNil))) (gName 2) (tSeq (tAsg (tMeth (He.ga K "Chip") "read" (sp_Chip_read K) [] E0 (tVar 0) (tCons (tVar 2) (tNil))) (gName 3)) (tIfS (tTest (tOp rNotN (tVar 3) (tC .non))) (tDrop (tBM K "list" rAppend (tVar 1) (tCons (tTup (tCons (tCall (sp_stamp_of K) [] E0 (tCons (tOp (rIxT K) (tVar 3) (tC (.int (0)))) (tNil))) (tCons (tVar 2) (tCons (tCall (sp_name_of K) [] E0 (tCons (tOp (rIxT K) (tVar 3) (tC (.int (0)))) (tNil))) (tCons (tOp (rIxT K) (tVar 3) (tC (.int (1)))) (tNil)))))) (tNil)))) (tNext)))) (tRet (tCB (rSortU K 4 sortB) (tCons (tVar 1) (tNil)))))
theorem pure_rows_by_stamp {K : PySem.W.Frag} {vs : List V} {H : Hp} {Q : VK} {E : XK} (T_Chip : TChip K) (hsp : sp_rows_by_stamp K vs H Q E) : t_rows_by_stamp K (endsOf Q) (start ["chip", "found", "page", "stuff"] vs) H := by
  obtain ⟨pre, F, R, p_chip0, x_chip0, m_chip0, rfl, rfl, h⟩ := hsp.use
  unfold m_rows_by_stamp at h
  unfold t_rows_by_stamp
  with_reducible refine go_seq ?_
  with_reducible refine go_asg ?_
  refine go_lst <| go_nil <| st_new (xs := ([] : (List (T4 Int Int Int Int)))) R .nil (by show 0 ≤ 1000; decide) fun a1 H R => ?_
  refine go_name <| ?_
  with_reducible refine go_seq ?_
  with_reducible refine go_for ?_
  refine go_iRng1 <| go_cons <| go_op <| go_fld <| go_var rfl <| getChip_blocks T_Chip R (.there (.here)) <| go_fld <| go_var rfl <| getChip_pages T_Chip R (.there (.here)) <| st_mul h fun x2 h => ?_
  refine go_nil <| st_rng1 h fun x3 w h => ?_
  refine st_for (S := (List (T4 Int Int Int Int))) w (fun s4 σ L => ∃ (u5 : Option V) (u6 : Option V), σ = [some (.ref p_chip0), some (.ref a1), u5, u6] ∧ L = (a1, lsF (s4 : (List (T4 Int Int Int Int)))) :: chipO K p_chip0 m_chip0 x_chip0 :: F) (R.fin (cs := [_, _]) (.cons .here (.cons .here .nil)) .refl) h ⟨_, _, rfl, rfl⟩ (fun _ _ _ _ => trivial) (fun s4 x7 v8 cs σ H L ys p hy R h => ?_) (fun s4 σ H L R p h => ?_)
  · obtain ⟨u5, u6, rfl, rfl⟩ := p
    obtain ⟨rfl, rfl⟩ := hy
    refine go_name <| ?_
    with_reducible refine go_seq ?_
    with_reducible refine go_asg ?_
    refine go_meth <| go_var rfl <| methChip (fun _ _ _ _ _ _ _ _ _ _ => by kernel_rfl) R (.there (.here)) <| go_cons <| go_var rfl <| go_nil <| SpS.call R (.cons (.there (.here)) .nil) ⟨_, _, _, x7, rfl, rfl, Out.use h fun r9 h v10 H R => ?_⟩
    refine go_name <| ?_
    with_reducible refine go_ifS ?_
    refine go_test <| go_op <| go_var rfl <| go_c <| ?_
    have hn := R.atC .here
    cases ho : r9 with
    | none =>
      rw [ho] at h
      rw [ho] at R hn
      obtain rfl := hn
      refine go_rNotN <| go_bl <| ite_f rfl ?_
      replace h := oC_none h
      with_reducible refine go_next ?_
      with_reducible refine go_loop ?_
      exact loop_end (cs := [_, _]) s4 h ⟨_, _, rfl, rfl⟩ R (.cons (.there (.there (.here))) (.cons (.there (.here)) .nil)) (.skip (.refl))
    | some y11 =>
      rw [ho] at h
      rw [ho] at R hn
      refine go_rNotN <| go_bl <| ite_t (by rw [decide_eq_false (fr_nn2 hn)]; rfl) ?_
      replace h := oC_some h
      replace R := R.some .here
      with_reducible refine go_drop ?_
      refine go_bm <| go_var rfl <| st_bmL R (HasL.of (.there (.there (.here))) RdL.ls) <| go_cons <| go_tup <| go_cons <| go_call <| go_cons <| go_op <| go_var rfl <| go_c <| st_2a R .here fun w12 hw => ?_
      obtain rfl : w12 = .int y11.a := hw
      refine go_nil <| SpS.call R .nil ⟨y11.a, rfl, rfl, Out.use h fun r13 h H R => ?_⟩
      refine go_cons <| go_var rfl <| go_cons <| go_call <| go_cons <| go_op <| go_var rfl <| go_c <| st_2a R .here fun w14 hw => ?_
      obtain rfl : w14 = .int y11.a := hw
      refine go_nil <| SpS.call R .nil ⟨y11.a, rfl, rfl, Out.use h fun r15 h H R => ?_⟩
      refine go_cons <| go_op <| go_var rfl <| go_c <| st_2b R .here fun w16 hw => ?_
      obtain rfl : w16 = .int y11.b := hw
      refine go_nil <| st_mk4 (x := r13) (y := x7) (z := r15) (u := y11.b) R rfl rfl rfl rfl fun a17 H R => ?_
      refine go_nil <| st_app (x := (T4.mk r13 x7 r15 y11.b)) R (MutL.of (.there (.there (.there (.here))))) (R.atC .here) h fun x18 H R h => ?_
      with_reducible refine go_loop ?_
      exact loop_end (cs := [_, _]) x18 h ⟨_, _, rfl, rfl⟩ R (.cons .here (.cons (.there (.there (.here))) .nil)) (.skip (.skip (.refl)))
  · obtain ⟨u5, u6, rfl, rfl⟩ := p
    with_reducible refine go_ret ?_
    refine go_CB <| go_cons <| go_var rfl <| go_nil <| st_sortT R (HasL.of .here RdL.ls) h fun x19 a20 H R h => ?_
    exact h _ _ (R.fin (cs := [_, _]) (.cons .here (.cons (.there (.here)) .nil)) (.skip (.refl)))
def m_stamp_of_roll (l_rows0 : (List (T4 Int Int Int Int))) : Res Empty (Int) :=   (foldR (fun (s1 : Int) (x6 : (T4 Int Int Int Int)) => ( cond ((decide (x6.c = (64 : Int)))) (  .ok x6.a) ( .ok s1) : Res Empty _)) (0 : Int) l_rows0).then_ fun s1 =>  .ok s1
def sp_stamp_of_roll (K : PySem.W.Frag) : Sp := SpS fun vs pre k => ∃ (a_rows0 : Addr) (b_rows0 : BO) (l_rows0 : (List (T4 Int Int Int Int))), vs = [.ref a_rows0] ∧ pre = [(a_rows0, b_rows0)] ∧ RdL K b_rows0 l_rows0 ∧ Out (m_stamp_of_roll l_rows0) (fun r => k (.int r) [(a_rows0, b_rows0)]) (fun _ => False)
def t_stamp_of_roll (K : PySem.W.Frag) : TS := tSeq (tAsg (tC (.int (0))) (gName 1)) (tSeq (tFor (iList K (tVar 0)) (gTup K 4 (gCons (gName 2) (gCons (gName 3) (gCons (gName 4) (gCons (gName 5) (gNil)))))) (tIfS (tTest (tOp rEq (tVar 4) (tC (.int (64))))) (tAsg (tVar 2) (gName 1)) (tNext))) (tRet (tVar 1)))
theorem pure_stamp_of_roll {K : PySem.W.Frag} {vs : List V} {H : Hp} {Q : VK} {E : XK}  (hsp : sp_stamp_of_roll K vs H Q E) : t_stamp_of_roll K (endsOf Q) (start ["rows", "newest", "stamp", "page", "name", "value"] vs) H := by
  obtain ⟨pre, F, R, a_rows0, b_rows0, l_rows0, rfl, rfl, rd_rows0, h⟩ := hsp.use
  unfold m_stamp_of_roll at h
  unfold t_stamp_of_roll
  with_reducible refine go_seq ?_
  with_reducible refine go_asg ?_
  refine go_c <| go_name <| ?_
  with_reducible refine go_seq ?_
  with_reducible refine go_for ?_
  refine go_iList <| go_var rfl <| st_iList R (HasL.of .here rd_rows0) <| st_for (S := Int) wk_has (fun s1 σ L => ∃ (u2 : Option V) (u3 : Option V) (u4 : Option V) (u5 : Option V), σ = [some (.ref a_rows0), some (.int s1), u2, u3, u4, u5] ∧ L = (a_rows0, b_rows0) :: F) (R.fin (cs := [_]) (.cons .here .nil) .refl) h ⟨_, _, _, _, rfl, rfl⟩ (fun s σ L p => by obtain ⟨u2, u3, u4, u5, rfl, rfl⟩ := p; exact (HasL.of .here rd_rows0)) (fun s1 x6 v7 cs σ H L ys p hy R h => ?_) (fun s1 σ H L R p h => ?_)
  · obtain ⟨u2, u3, u4, u5, rfl, rfl⟩ := p
    obtain rfl := hy
    refine st_un4 R .here fun w8 w9 w10 w11 hw8 hw9 hw10 hw11 => ?_
    obtain rfl : w8 = .int x6.a := hw8
    obtain rfl : w9 = .int x6.b := hw9
    obtain rfl : w10 = .int x6.c := hw10
    obtain rfl : w11 = .int x6.d := hw11
    refine go_gcons <| go_name <| go_gcons <| go_name <| go_gcons <| go_name <| go_gcons <| go_name <| go_gnil <| ?_
    with_reducible refine go_ifS ?_
    refine go_test <| go_op <| go_var rfl <| go_c <| st_eqI <| go_bl <| st_ite h (fun hc h => ?_) (fun hc h => ?_)
    · with_reducible refine go_asg ?_
      refine go_var rfl <| go_name <| ?_
      with_reducible refine go_loop ?_
      exact loop_end (cs := [_]) x6.a h ⟨_, _, _, _, rfl, rfl⟩ R (.cons (.there (.here)) .nil) (.skip (.refl))
    · with_reducible refine go_next ?_
      with_reducible refine go_loop ?_
      exact loop_end (cs := [_]) s1 h ⟨_, _, _, _, rfl, rfl⟩ R (.cons (.there (.here)) .nil) (.skip (.refl))
  · obtain ⟨u2, u3, u4, u5, rfl, rfl⟩ := p
    with_reducible refine go_ret ?_
    refine go_var rfl <| ?_
    exact h _ (R.fin (cs := [_]) (.cons .here .nil) .refl)
def m_book_of (m_chip0 : ChipM) : Res Empty (BookM) := (m_Book___init__ m_chip0.blocks m_chip0.pages).bind fun r3 => (m_rows_by_stamp m_chip0).bind fun r5 => (m_stamp_of_roll r5).bind fun r7 =>  (foldR (fun (s8 : BookM) (x15 : (T4 Int Int Int Int)) => ((m_Book_start_at s8 x15.a).bind fun r21 => (m_Book_note r21 x15.b x15.c).bind fun r22 =>  cond ((decide (x15.a = r7))) ((m_sheets_of x15.d).bind fun r23 => (m_Book_held r22).bind fun r25 => (foldR (fun (s27 : BookM) (x29 : Int) => ( cond ((!decide (x29 ∈ r23))) ((m_Book_forget s27 x29).bind fun r31 =>  .ok r31) ( .ok s27) : Res Empty _)) r22 r25).then_ fun s27 =>  .ok s27) ( .ok r22) : Res Empty _)) r3 r5).then_ fun s8 =>  .ok s8
def sp_book_of (K : PySem.W.Frag) : Sp := SpS fun vs pre k => ∃ (p_chip0 : Addr) (x_chip0 : ChipX) (m_chip0 : ChipM), vs = [.ref p_chip0] ∧ pre = [chipO K p_chip0 m_chip0 x_chip0] ∧ Out (m_book_of m_chip0) (fun r => ∀ z1 : Addr, ∀ z2 : BookX, k (.ref z1) [bookO K z1 r z2, chipO K p_chip0 m_chip0 x_chip0]) (fun _ => False)
def t_book_of (K : PySem.W.Frag) : TS := tSeq (tAsg (tMake (He.ga K "Book") (sp_Book___init__ K) [] E0 (tCons (tFld K (tVar 0) "blocks") (tCons (tFld K (tVar 0) "pages") (tNil)))) (gName 1)) (tSeq (tAsg (tCall (sp_rows_by_stamp K) [] E0 (tCons (tVar 0) (tNil))) (gName 2)) (tSeq (tAsg (tCall (sp_stamp_of_roll K) [] E0 (tCons (tVar 2) (tNil))) (gName 3)) (tSeq (tFor (iList K (tVar 2)) (gTup K 4 (gCons (gName 4) (gCons (gName 5) (gCons (gName 6) (gCons (gName 7) (gNil)))))) (tSeq (tDrop (tMeth (He.ga K "Book") "start_at" (sp_Book_start_at K) [] E0 (tVar 1) (tCons (tVar 4) (tNil)))) (tSeq (tDrop (tMeth (He.ga K "Book") "note" (sp_Book_note K) [] E0 (tVar 1) (tCons (tVar 5) (tCons (tVar 6) (tNil))))) (tIfS (tTest (tOp rEq (tVar 4) (tVar 3))) (tSeq (tAsg (tCall (sp_sheets_of K) [] E0 (tCons (tVar 7) (tNil))) (gName 8)) (tFor (iList K (tMeth (He.ga K "Book") "held" (sp_Book_held K) [] E0 (tVar 1) tNil)) (gName 9) (tIfS (tTest (tOp (rIn K true) (tVar 9) (tVar 8))) (tDrop (tMeth (He.ga K "Book") "forget" (sp_Book_forget K) [] E0 (tVar 1) (tCons (tVar 9) (tNil)))) (tNext)))) (tNext))))) (tRet (tVar 1)))))
theorem pure_book_of {K : PySem.W.Frag} {vs : List V} {H : Hp} {Q : VK} {E : XK} (T_Chip : TChip K) (hsp : sp_book_of K vs H Q E) : t_book_of K (endsOf Q) (start ["chip", "book", "rows", "newest", "stamp", "page", "name", "value", "kept", "sheet"] vs) H := by
  obtain ⟨pre, F, R, p_chip0, x_chip0, m_chip0, rfl, rfl, h⟩ := hsp.use
  unfold m_book_of at h
  unfold t_book_of
  with_reducible refine go_seq ?_
  with_reducible refine go_asg ?_
  refine go_make <| go_cons <| go_fld <| go_var rfl <| getChip_blocks T_Chip R .here <| go_cons <| go_fld <| go_var rfl <| getChip_pages T_Chip R .here <| go_nil <| make_at R fun p1 dx2 H R => ?_
  refine SpS.call R (.cons .here .nil) ⟨_, _, m_chip0.blocks, m_chip0.pages, rfl, rfl, Out.use h fun r3 h x4 H R => ⟨rfl, ?_⟩⟩
  refine go_name <| ?_
  with_reducible refine go_seq ?_
  with_reducible refine go_asg ?_
  refine go_call <| go_cons <| go_var rfl <| go_nil <| SpS.call R (.cons (.there (.here)) .nil) ⟨_, _, _, rfl, rfl, Out.use h fun r5 h a6 H R => ?_⟩
  refine go_name <| ?_
  with_reducible refine go_seq ?_
  with_reducible refine go_asg ?_
  refine go_call <| go_cons <| go_var rfl <| go_nil <| SpS.call R (.cons .here .nil) ⟨_, _, r5, rfl, rfl, RdL.ls, Out.use h fun r7 h H R => ?_⟩
  refine go_name <| ?_
  with_reducible refine go_seq ?_
  with_reducible refine go_for ?_
  refine go_iList <| go_var rfl <| st_iList R (HasL.of .here RdL.ls) <| st_for (S := BookM) wk_has (fun s8 σ L => ∃ (u9 : Option V) (u10 : Option V) (u11 : Option V) (u12 : Option V) (u13 : Option V) (u14 : Option V), σ = [some (.ref p_chip0), some (.ref p1), some (.ref a6), some (.int r7), u9, u10, u11, u12, u13, u14] ∧ L = (a6, lsF (r5 : (List (T4 Int Int Int Int)))) :: chipO K p_chip0 m_chip0 x_chip0 :: bookO K p1 s8 x4 :: F) (R.fin (cs := [_, _, _]) (.cons .here (.cons .here (.cons .here .nil))) .refl) h ⟨_, _, _, _, _, _, rfl, rfl⟩ (fun s σ L p => by obtain ⟨u9, u10, u11, u12, u13, u14, rfl, rfl⟩ := p; exact (HasL.of .here RdL.ls)) (fun s8 x15 v16 cs σ H L ys p hy R h => ?_) (fun s8 σ H L R p h => ?_)
  · obtain ⟨u9, u10, u11, u12, u13, u14, rfl, rfl⟩ := p
    obtain rfl := hy
    refine st_un4 R .here fun w17 w18 w19 w20 hw17 hw18 hw19 hw20 => ?_
    obtain rfl : w17 = .int x15.a := hw17
    obtain rfl : w18 = .int x15.b := hw18
    obtain rfl : w19 = .int x15.c := hw19
    obtain rfl : w20 = .int x15.d := hw20
    refine go_gcons <| go_name <| go_gcons <| go_name <| go_gcons <| go_name <| go_gcons <| go_name <| go_gnil <| ?_
    with_reducible refine go_seq ?_
    with_reducible refine go_drop ?_
    refine go_meth <| go_var rfl <| methBook (fun _ _ _ _ _ _ _ _ => by kernel_rfl) R (.there (.there (.there (.here)))) <| go_cons <| go_var rfl <| go_nil <| SpS.call R (.cons (.there (.there (.there (.here)))) .nil) ⟨_, _, _, x15.a, rfl, rfl, Out.use h fun r21 h H R => ?_⟩
    with_reducible refine go_seq ?_
    with_reducible refine go_drop ?_
    refine go_meth <| go_var rfl <| methBook (fun _ _ _ _ _ _ _ _ => by kernel_rfl) R .here <| go_cons <| go_var rfl <| go_cons <| go_var rfl <| go_nil <| SpS.call R (.cons .here .nil) ⟨_, _, _, x15.b, x15.c, rfl, rfl, Out.use h fun r22 h H R => ?_⟩
    with_reducible refine go_ifS ?_
    refine go_test <| go_op <| go_var rfl <| go_var rfl <| st_eqI <| go_bl <| st_ite h (fun hc h => ?_) (fun hc h => ?_)
    · with_reducible refine go_seq ?_
      with_reducible refine go_asg ?_
      refine go_call <| go_cons <| go_var rfl <| go_nil <| SpS.call R .nil ⟨x15.d, rfl, rfl, Out.use h fun r23 h a24 H R => ?_⟩
      refine go_name <| ?_
      with_reducible refine go_for ?_
      refine go_iList <| go_meth <| go_var rfl <| methBook (fun _ _ _ _ _ _ _ _ => by kernel_rfl) R (.there (.here)) <| go_nil <| SpS.call R (.cons (.there (.here)) .nil) ⟨_, _, _, rfl, rfl, Out.use h fun r25 h a26 H R => ?_⟩
      refine st_iList R (HasL.of .here RdL.ls) <| st_for (S := BookM) wk_sc (fun s27 σ L => ∃ (u28 : Option V), σ = [some (.ref p_chip0), some (.ref p1), some (.ref a6), some (.int r7), some (.int x15.a), some (.int x15.b), some (.int x15.c), some (.int x15.d), some (.ref a24), u28] ∧ L = (a26, lsF (r25 : (List Int))) :: bookO K p1 s27 x4 :: (a24, lsF (r23 : (List Int))) :: (a6, lsF (r5 : (List (T4 Int Int Int Int)))) :: chipO K p_chip0 m_chip0 x_chip0 :: F) (R.fin (cs := [_, _, _, _, _]) (.cons .here (.cons .here (.cons .here (.cons (.there (.here)) (.cons (.there (.here)) .nil))))) (.skip (.refl))) h ⟨_, rfl, rfl⟩ (fun s σ L p => by obtain ⟨u28, rfl, rfl⟩ := p; exact (HasL.of .here RdL.ls)) (fun s27 x29 v30 cs σ H L ys p hy R h => ?_) (fun s27 σ H L R p h => ?_)
      · obtain ⟨u28, rfl, rfl⟩ := p
        obtain ⟨rfl, rfl⟩ := hy
        refine go_name <| ?_
        with_reducible refine go_ifS ?_
        refine go_test <| go_op <| go_var rfl <| go_var rfl <| st_notin R (HasL.of (.there (.there (.here))) RdL.ls) <| go_bl <| st_ite h (fun hc h => ?_) (fun hc h => ?_)
        · with_reducible refine go_drop ?_
          refine go_meth <| go_var rfl <| methBook (fun _ _ _ _ _ _ _ _ => by kernel_rfl) R (.there (.here)) <| go_cons <| go_var rfl <| go_nil <| SpS.call R (.cons (.there (.here)) .nil) ⟨_, _, _, x29, rfl, rfl, Out.use h fun r31 h H R => ?_⟩
          with_reducible refine go_loop ?_
          exact loop_end (cs := [_, _, _, _, _]) r31 h ⟨_, rfl, rfl⟩ R (.cons (.there (.here)) (.cons .here (.cons .here (.cons .here (.cons .here .nil))))) .refl
        · with_reducible refine go_next ?_
          with_reducible refine go_loop ?_
          exact loop_end (cs := [_, _, _, _, _]) s27 h ⟨_, rfl, rfl⟩ R (.cons .here (.cons .here (.cons .here (.cons .here (.cons .here .nil))))) .refl
      · obtain ⟨u28, rfl, rfl⟩ := p
        with_reducible refine go_loop ?_
        exact loop_end (cs := [_, _, _]) s27 h ⟨_, _, _, _, _, _, rfl, rfl⟩ R (.cons (.there (.there (.there (.here)))) (.cons (.there (.there (.there (.here)))) (.cons (.there (.here)) .nil))) (.skip (.skip (.refl)))
    · with_reducible refine go_next ?_
      with_reducible refine go_loop ?_
      exact loop_end (cs := [_, _, _]) r22 h ⟨_, _, _, _, _, _, rfl, rfl⟩ R (.cons (.there (.there (.here))) (.cons (.there (.there (.here))) (.cons .here .nil))) (.skip (.refl))
  · obtain ⟨u9, u10, u11, u12, u13, u14, rfl, rfl⟩ := p
    with_reducible refine go_ret ?_
    refine go_var rfl <| ?_
    exact h _ _ _ (R.fin (cs := [_, _]) (.cons (.there (.there (.here))) (.cons (.there (.here)) .nil)) (.skip (.refl)))
def m_fault (m_chip0 : ChipM) (m_book0 : BookM) (sheet0 : Int) (page0 : Int) : Res Empty ((Option Str)) := (mulI m_chip0.blocks m_chip0.pages).bind fun x1 => (m_is_within page0 ((0 : Int)) ((x1 - (1 : Int)))).bind fun r2 => cond ((!r2)) ( .ok (some (("nothing" : Str)))) ((m_Chip_read m_chip0 page0).bind fun r3 =>  oC r3 ( .ok (some (("nothing" : Str)))) (fun y5 => (m_name_of y5.a).bind fun r7 => cond ((!decide (r7 = sheet0))) ( .ok (some (("other" : Str)))) ( cond ((!(dLook m_book0.whr sheet0).isSome)) ( .ok (some (("gone" : Str)))) ((getD_ m_book0.whr sheet0).bind fun x8 => cond ((!decide (x8 = page0))) ( .ok (some (("old" : Str)))) ( .ok (none : (Option Str)))))))
def sp_fault (K : PySem.W.Frag) : Sp := SpS fun vs pre k => ∃ (p_chip0 : Addr) (x_chip0 : ChipX) (m_chip0 : ChipM) (p_book0 : Addr) (x_book0 : BookX) (m_book0 : BookM) (sheet0 : Int) (page0 : Int), vs = [.ref p_chip0, .ref p_book0, .int sheet0, .int page0] ∧ pre = [chipO K p_chip0 m_chip0 x_chip0, bookO K p_book0 m_book0 x_book0] ∧ Out (m_fault m_chip0 m_book0 sheet0 page0) (fun r => k (Sc.val r) [chipO K p_chip0 m_chip0 x_chip0, bookO K p_book0 m_book0 x_book0]) (fun _ => False)
def t_fault (K : PySem.W.Frag) : TS := tSeq (tIfS (tNot (tB (tCall (sp_is_within K) [] E0 (tCons (tVar 3) (tCons (tC (.int (0))) (tCons (tOp rSubI (tOp rMulI (tFld K (tVar 0) "blocks") (tFld K (tVar 0) "pages")) (tC (.int (1)))) (tNil))))))) (tRet (tC (.str "nothing"))) (tNext)) (tSeq (tAsg (tMeth (He.ga K "Chip") "read" (sp_Chip_read K) [] E0 (tVar 0) (tCons (tVar 3) (tNil))) (gName 4)) (tSeq (tIfS (tTest (tOp rIsN (tVar 4) (tC .non))) (tRet (tC (.str "nothing"))) (tNext)) (tSeq (tIfS (tTest (tOp rNe (tCall (sp_name_of K) [] E0 (tCons (tOp (rIxT K) (tVar 4) (tC (.int (0)))) (tNil))) (tVar 2))) (tRet (tC (.str "other"))) (tNext)) (tSeq (tIfS (tB (tDNotIn (tVar 2) (tFld K (tVar 1) "where"))) (tRet (tC (.str "gone"))) (tNext)) (tSeq (tIfS (tTest (tOp rNe (tDGet (tFld K (tVar 1) "where") (tVar 2)) (tVar 3))) (tRet (tC (.str "old"))) (tNext)) (tRet (tC .non)))))))
theorem pure_fault {K : PySem.W.Frag} {vs : List V} {H : Hp} {Q : VK} {E : XK} (T_Book : TBook K) (T_Chip : TChip K) (hsp : sp_fault K vs H Q E) : t_fault K (endsOf Q) (start ["chip", "book", "sheet", "page", "stuff"] vs) H := by
  obtain ⟨pre, F, R, p_chip0, x_chip0, m_chip0, p_book0, x_book0, m_book0, sheet0, page0, rfl, rfl, h⟩ := hsp.use
  unfold m_fault at h
  unfold t_fault
  with_reducible refine go_seq ?_
  with_reducible refine go_ifS ?_
  refine go_not <| go_B <| go_call <| go_cons <| go_var rfl <| go_cons <| go_c <| go_cons <| go_op <| go_op <| go_fld <| go_var rfl <| getChip_blocks T_Chip R .here <| go_fld <| go_var rfl <| getChip_pages T_Chip R .here <| st_mul h fun x1 h => ?_
  refine go_c <| go_I0 <| go_nil <| SpS.call R .nil ⟨page0, (0 : Int), (x1 - (1 : Int)), rfl, rfl, Out.use h fun r2 h H R => ?_⟩
  refine go_bl <| st_ite h (fun hc h => ?_) (fun hc h => ?_)
  · with_reducible refine go_ret ?_
    refine go_c <| ?_
    exact h _ (R.fin (cs := [_, _]) (.cons .here (.cons .here .nil)) .refl)
  · with_reducible refine go_next ?_
    with_reducible refine go_seq ?_
    with_reducible refine go_asg ?_
    refine go_meth <| go_var rfl <| methChip (fun _ _ _ _ _ _ _ _ _ _ => by kernel_rfl) R .here <| go_cons <| go_var rfl <| go_nil <| SpS.call R (.cons .here .nil) ⟨_, _, _, page0, rfl, rfl, Out.use h fun r3 h v4 H R => ?_⟩
    refine go_name <| ?_
    with_reducible refine go_seq ?_
    with_reducible refine go_ifS ?_
    refine go_test <| go_op <| go_var rfl <| go_c <| ?_
    have hn := R.atC .here
    cases ho : r3 with
    | none =>
      rw [ho] at h
      rw [ho] at R hn
      obtain rfl := hn
      refine go_rIsN <| go_bl <| ite_t rfl ?_
      replace h := oC_none h
      with_reducible refine go_ret ?_
      refine go_c <| ?_
      exact h _ (R.fin (cs := [_, _]) (.cons (.there (.here)) (.cons (.there (.here)) .nil)) (.skip (.refl)))
    | some y5 =>
      rw [ho] at h
      rw [ho] at R hn
      refine go_rIsN <| go_bl <| ite_f (decide_eq_false (fr_nn2 hn)) ?_
      replace h := oC_some h
      replace R := R.some .here
      with_reducible refine go_next ?_
      with_reducible refine go_seq ?_
      with_reducible refine go_ifS ?_
      refine go_test <| go_op <| go_call <| go_cons <| go_op <| go_var rfl <| go_c <| st_2a R .here fun w6 hw => ?_
      obtain rfl : w6 = .int y5.a := hw
      refine go_nil <| SpS.call R .nil ⟨y5.a, rfl, rfl, Out.use h fun r7 h H R => ?_⟩
      refine go_var rfl <| st_neI <| go_bl <| st_ite h (fun hc h => ?_) (fun hc h => ?_)
      · with_reducible refine go_ret ?_
        refine go_c <| ?_
        exact h _ (R.fin (cs := [_, _]) (.cons (.there (.here)) (.cons (.there (.here)) .nil)) (.skip (.refl)))
      · with_reducible refine go_next ?_
        with_reducible refine go_seq ?_
        with_reducible refine go_ifS ?_
        refine go_B <| go_dnotin <| go_var rfl <| go_fld <| go_var rfl <| getBook_where T_Book R (.there (.there (.here))) <| st_dnotin R (hasBook_where (.there (.there (.here)))) rfl <| go_bl <| st_ite h (fun hc h => ?_) (fun hc h => ?_)
        · with_reducible refine go_ret ?_
          refine go_c <| ?_
          exact h _ (R.fin (cs := [_, _]) (.cons (.there (.here)) (.cons (.there (.here)) .nil)) (.skip (.refl)))
        · with_reducible refine go_next ?_
          with_reducible refine go_seq ?_
          with_reducible refine go_ifS ?_
          refine go_test <| go_op <| go_dget <| go_fld <| go_var rfl <| getBook_where T_Book R (.there (.there (.here))) <| go_var rfl <| st_dget R (hasBook_where (.there (.there (.here)))) rfl h fun x8 h => ?_
          refine go_var rfl <| st_neI <| go_bl <| st_ite h (fun hc h => ?_) (fun hc h => ?_)
          · with_reducible refine go_ret ?_
            refine go_c <| ?_
            exact h _ (R.fin (cs := [_, _]) (.cons (.there (.here)) (.cons (.there (.here)) .nil)) (.skip (.refl)))
          · with_reducible refine go_next ?_
            with_reducible refine go_ret ?_
            refine go_c <| ?_
            exact h _ (R.fin (cs := [_, _]) (.cons (.there (.here)) (.cons (.there (.here)) .nil)) (.skip (.refl)))
def m_faults (m_chip0 : ChipM) (l_told0 : (List (T2 Int Int))) : Res Empty ((List (T3 Int Int Str))) := (m_book_of m_chip0).bind fun r1 =>    (foldR (fun (s6 : (List (T3 Int Int Str)) × (List (Int × Bool))) (x10 : (T2 Int Int)) => ((m_fault m_chip0 r1 x10.a x10.b).bind fun r14 =>  (cond ((dLook s6.2 x10.a).isSome) (  .ok (some (("twice" : Str)))) ( .ok r14) : Res Empty ((Option Str))).then_ fun s15 =>  (oC s15 ( .ok s6.1) (fun y17 => (appL s6.1 ((T3.mk x10.a x10.b y17))).bind fun x20 =>  .ok x20) : Res Empty ((List (T3 Int Int Str)))).then_ fun s16 => (putD_ s6.2 x10.a true).bind fun x18 =>  .ok (s16, x18) : Res Empty _)) (([] : (List (T3 Int Int Str))), ([] : (List (Int × Bool)))) l_told0).then_ fun s6 => (m_Book_held r1).bind fun r21 => (foldR (fun (s23 : (List (T3 Int Int Str))) (x27 : Int) => ( cond ((!(dLook s6.2 x27).isSome)) ((getD_ r1.whr x27).bind fun x29 => (appL s23 ((T3.mk x27 x29 (("missing" : Str))))).bind fun x31 =>  .ok x31) ( .ok s23) : Res Empty _)) s6.1 r21).then_ fun s23 =>  .ok s23
def sp_faults (K : PySem.W.Frag) : Sp := SpS fun vs pre k => ∃ (p_chip0 : Addr) (x_chip0 : ChipX) (m_chip0 : ChipM) (a_told0 : Addr) (b_told0 : BO) (l_told0 : (List (T2 Int Int))), vs = [.ref p_chip0, .ref a_told0] ∧ pre = [chipO K p_chip0 m_chip0 x_chip0, (a_told0, b_told0)] ∧ RdL K b_told0 l_told0 ∧ Out (m_faults m_chip0 l_told0) (fun r => ∀ z1 : Addr, k (.ref z1) [(z1, lsF (r : (List (T3 Int Int Str)))), chipO K p_chip0 m_chip0 x_chip0, (a_told0, b_told0)]) (fun _ => False)
def t_faults (K : PySem.W.Frag) : TS := tSeq (tAsg (tCall (sp_book_of K) [] E0 (tCons (tVar 0) (tNil))) (gName 2)) (tSeq (tAsg (tLst (tNil)) (gName 3)) (tSeq (tAsg (tDNewK) (gName 4)) (tSeq (tFor (iList K (tVar 1)) (gTup K 2 (gCons (gName 5) (gCons (gName 6) (gNil)))) (tSeq (tAsg (tCall (sp_fault K) [] E0 (tCons (tVar 0) (tCons (tVar 2) (tCons (tVar 5) (tCons (tVar 6) (tNil)))))) (gName 7)) (tSeq (tIfS (tB (tDIn (tVar 5) (tVar 4))) (tAsg (tC (.str "twice")) (gName 7)) (tNext)) (tSeq (tIfS (tTest (tOp rNotN (tVar 7) (tC .non))) (tDrop (tBM K "list" rAppend (tVar 3) (tCons (tTup (tCons (tVar 5) (tCons (tVar 6) (tCons (tVar 7) (tNil))))) (tNil)))) (tNext)) (sDPut (tVar 4) (tVar 5) (tC (.bl true))))))) (tSeq (tFor (iList K (tMeth (He.ga K "Book") "held" (sp_Book_held K) [] E0 (tVar 2) tNil)) (gName 5) (tIfS (tB (tDNotIn (tVar 5) (tVar 4))) (tDrop (tBM K "list" rAppend (tVar 3) (tCons (tTup (tCons (tVar 5) (tCons (tDGet (tFld K (tVar 2) "where") (tVar 5)) (tCons (tC (.str "missing")) (tNil))))) (tNil)))) (tNext))) (tRet (tVar 3))))))
theorem pure_faults {K : PySem.W.Frag} {vs : List V} {H : Hp} {Q : VK} {E : XK} (T_Book : TBook K) (hsp : sp_faults K vs H Q E) : t_faults K (endsOf Q) (start ["chip", "told", "book", "found", "known", "sheet", "page", "sort"] vs) H := by
  obtain ⟨pre, F, R, p_chip0, x_chip0, m_chip0, a_told0, b_told0, l_told0, rfl, rfl, rd_told0, h⟩ := hsp.use
  unfold m_faults at h
  unfold t_faults
  with_reducible refine go_seq ?_
  with_reducible refine go_asg ?_
  refine go_call <| go_cons <| go_var rfl <| go_nil <| SpS.call R (.cons .here .nil) ⟨_, _, _, rfl, rfl, Out.use h fun r1 h p2 x3 H R => ?_⟩
  refine go_name <| ?_
  with_reducible refine go_seq ?_
  with_reducible refine go_asg ?_
  refine go_lst <| go_nil <| st_new (xs := ([] : (List (T3 Int Int Str)))) R .nil (by show 0 ≤ 1000; decide) fun a4 H R => ?_
  refine go_name <| ?_
  with_reducible refine go_seq ?_
  with_reducible refine go_asg ?_
  refine st_dnew (κ := Int) (α := Bool) R fun a5 H R => ?_
  refine go_name <| ?_
  with_reducible refine go_seq ?_
  with_reducible refine go_for ?_
  refine go_iList <| go_var rfl <| st_iList R (HasL.of (.there (.there (.there (.there (.here))))) rd_told0) <| st_for (S := (List (T3 Int Int Str)) × (List (Int × Bool))) wk_has (fun s6 σ L => ∃ (u7 : Option V) (u8 : Option V) (u9 : Option V), σ = [some (.ref p_chip0), some (.ref a_told0), some (.ref p2), some (.ref a4), some (.ref a5), u7, u8, u9] ∧ L = (a5, dcF (s6.2 : (List (Int × Bool)))) :: (a4, lsF (s6.1 : (List (T3 Int Int Str)))) :: bookO K p2 r1 x3 :: chipO K p_chip0 m_chip0 x_chip0 :: (a_told0, b_told0) :: F) (R.fin (cs := [_, _, _, _, _]) (.cons .here (.cons .here (.cons .here (.cons .here (.cons .here .nil))))) .refl) h ⟨_, _, _, rfl, rfl⟩ (fun s σ L p => by obtain ⟨u7, u8, u9, rfl, rfl⟩ := p; exact (HasL.of (.there (.there (.there (.there (.here))))) rd_told0)) (fun s6 x10 v11 cs σ H L ys p hy R h => ?_) (fun s6 σ H L R p h => ?_)
  · obtain ⟨u7, u8, u9, rfl, rfl⟩ := p
    obtain rfl := hy
    refine st_un2 R .here fun w12 w13 hw12 hw13 => ?_
    obtain rfl : w12 = .int x10.a := hw12
    obtain rfl : w13 = .int x10.b := hw13
    refine go_gcons <| go_name <| go_gcons <| go_name <| go_gnil <| ?_
    with_reducible refine go_seq ?_
    with_reducible refine go_asg ?_
    refine go_call <| go_cons <| go_var rfl <| go_cons <| go_var rfl <| go_cons <| go_var rfl <| go_cons <| go_var rfl <| go_nil <| SpS.call R (.cons (.there (.there (.there (.there (.here))))) (.cons (.there (.there (.there (.here)))) .nil)) ⟨_, _, _, _, _, _, x10.a, x10.b, rfl, rfl, Out.use h fun r14 h H R => ?_⟩
    refine go_name <| ?_
    with_reducible refine go_seq ?_
    with_reducible refine go_ifS ?_
    refine go_B <| go_din <| go_var rfl <| go_var rfl <| st_din R (MutD.of (.there (.there (.there (.here))))).has rfl <| go_bl <| st_join (α := (Option Str)) (fun s15 σ L => σ = [some (.ref p_chip0), some (.ref a_told0), some (.ref p2), some (.ref a4), some (.ref a5), some (.int x10.a), some (.int x10.b), some (Sc.val s15)] ∧ L = chipO K p_chip0 m_chip0 x_chip0 :: bookO K p2 r1 x3 :: (a5, dcF (s6.2 : (List (Int × Bool)))) :: (a4, lsF (s6.1 : (List (T3 Int Int Str)))) :: (a_told0, b_told0) :: F) h (fun s15 σ H L R p h => ?_) (fun J hc h => ?_) (fun J hc h => ?_)
    · obtain ⟨rfl, rfl⟩ := p
      with_reducible refine go_seq ?_
      with_reducible refine go_ifS ?_
      refine go_test <| go_op <| go_var rfl <| go_c <| st_notNO <| go_bl <| st_joinS (α := (List (T3 Int Int Str))) (fun s16 σ L => σ = [some (.ref p_chip0), some (.ref a_told0), some (.ref p2), some (.ref a4), some (.ref a5), some (.int x10.a), some (.int x10.b), some (Sc.val s15)] ∧ L = chipO K p_chip0 m_chip0 x_chip0 :: bookO K p2 r1 x3 :: (a5, dcF (s6.2 : (List (Int × Bool)))) :: (a4, lsF (s16 : (List (T3 Int Int Str)))) :: (a_told0, b_told0) :: F) h (fun s16 σ H L R p h => ?_) (fun J ho h => ?_) (fun J y17 ho h => ?_)
      · obtain ⟨rfl, rfl⟩ := p
        with_reducible refine go_dput ?_
        refine go_c <| go_cf <| go_var rfl <| go_var rfl <| st_dput (x := true) R (MutD.of (.there (.there (.here)))) rfl rfl h fun x18 H R h => ?_
        with_reducible refine go_loop ?_
        exact loop_end (cs := [_, _, _, _, _]) (s16, x18) h ⟨_, _, _, rfl, rfl⟩ R (.cons .here (.cons (.there (.there (.here))) (.cons (.there (.here)) (.cons .here (.cons .here .nil))))) .refl
      · with_reducible refine go_next ?_
        exact J s6.1 _ _ _ (R.fin (cs := [_, _, _, _, _]) (.cons .here (.cons .here (.cons .here (.cons .here (.cons .here .nil))))) .refl) ⟨rfl, rfl⟩ h
      · rw [ho]
        with_reducible refine go_drop ?_
        refine go_bm <| go_var rfl <| st_bmL R (HasL.of (.there (.there (.there (.here)))) RdL.ls) <| go_cons <| go_tup <| go_cons <| go_var rfl <| go_cons <| go_var rfl <| go_cons <| go_var rfl <| go_nil <| st_mk3 (x := x10.a) (y := x10.b) (z := y17) R rfl rfl rfl fun a19 H R => ?_
        refine go_nil <| st_app (x := (T3.mk x10.a x10.b y17)) R (MutL.of (.there (.there (.there (.there (.here)))))) (R.atC .here) h fun x20 H R h => ?_
        exact J x20 _ _ _ (R.fin (cs := [_, _, _, _, _]) (.cons (.there (.there (.here))) (.cons (.there (.there (.here))) (.cons (.there (.there (.here))) (.cons .here (.cons (.there (.here)) .nil))))) (.skip (.refl))) ⟨(by first | rfl | rw [ho]), rfl⟩ h
    · with_reducible refine go_asg ?_
      refine go_c <| go_name <| ?_
      exact J (some (("twice" : Str))) _ _ _ (R.fin (cs := [_, _, _, _, _]) (.cons .here (.cons .here (.cons (.there (.here)) (.cons (.there (.here)) (.cons (.there (.here)) .nil))))) (.skip (.refl))) ⟨rfl, rfl⟩ h
    · with_reducible refine go_next ?_
      exact J r14 _ _ _ (R.fin (cs := [_, _, _, _, _]) (.cons .here (.cons .here (.cons (.there (.here)) (.cons (.there (.here)) (.cons (.there (.here)) .nil))))) (.skip (.refl))) ⟨rfl, rfl⟩ h
  · obtain ⟨u7, u8, u9, rfl, rfl⟩ := p
    with_reducible refine go_seq ?_
    with_reducible refine go_for ?_
    refine go_iList <| go_meth <| go_var rfl <| methBook (fun _ _ _ _ _ _ _ _ => by kernel_rfl) R (.there (.there (.here))) <| go_nil <| SpS.call R (.cons (.there (.there (.here))) .nil) ⟨_, _, _, rfl, rfl, Out.use h fun r21 h a22 H R => ?_⟩
    refine st_iList R (HasL.of .here RdL.ls) <| st_for (S := (List (T3 Int Int Str))) wk_sc (fun s23 σ L => ∃ (u24 : Option V) (u25 : Option V) (u26 : Option V), σ = [some (.ref p_chip0), some (.ref a_told0), some (.ref p2), some (.ref a4), some (.ref a5), u24, u25, u26] ∧ L = (a22, lsF (r21 : (List Int))) :: bookO K p2 r1 x3 :: (a5, dcF (s6.2 : (List (Int × Bool)))) :: (a4, lsF (s23 : (List (T3 Int Int Str)))) :: chipO K p_chip0 m_chip0 x_chip0 :: (a_told0, b_told0) :: F) (R.fin (cs := [_, _, _, _, _, _]) (.cons .here (.cons .here (.cons .here (.cons .here (.cons .here (.cons .here .nil)))))) .refl) h ⟨_, _, _, rfl, rfl⟩ (fun s σ L p => by obtain ⟨u24, u25, u26, rfl, rfl⟩ := p; exact (HasL.of .here RdL.ls)) (fun s23 x27 v28 cs σ H L ys p hy R h => ?_) (fun s23 σ H L R p h => ?_)
    · obtain ⟨u24, u25, u26, rfl, rfl⟩ := p
      obtain ⟨rfl, rfl⟩ := hy
      refine go_name <| ?_
      with_reducible refine go_ifS ?_
      refine go_B <| go_dnotin <| go_var rfl <| go_var rfl <| st_dnotin R (MutD.of (.there (.there (.here)))).has rfl <| go_bl <| st_ite h (fun hc h => ?_) (fun hc h => ?_)
      · with_reducible refine go_drop ?_
        refine go_bm <| go_var rfl <| st_bmL R (HasL.of (.there (.there (.there (.here)))) RdL.ls) <| go_cons <| go_tup <| go_cons <| go_var rfl <| go_cons <| go_dget <| go_fld <| go_var rfl <| getBook_where T_Book R (.there (.here)) <| go_var rfl <| st_dget R (hasBook_where (.there (.here))) rfl h fun x29 h => ?_
        refine go_cons <| go_c <| go_nil <| st_mk3 (x := x27) (y := x29) (z := ("missing" : Str)) R rfl rfl rfl fun a30 H R => ?_
        refine go_nil <| st_app (x := (T3.mk x27 x29 (("missing" : Str)))) R (MutL.of (.there (.there (.there (.there (.here)))))) (R.atC .here) h fun x31 H R h => ?_
        with_reducible refine go_loop ?_
        exact loop_end (cs := [_, _, _, _, _, _]) x31 h ⟨_, _, _, rfl, rfl⟩ R (.cons (.there (.there (.here))) (.cons (.there (.there (.here))) (.cons (.there (.there (.here))) (.cons .here (.cons (.there (.here)) (.cons (.there (.here)) .nil)))))) (.skip (.refl))
      · with_reducible refine go_next ?_
        with_reducible refine go_loop ?_
        exact loop_end (cs := [_, _, _, _, _, _]) s23 h ⟨_, _, _, rfl, rfl⟩ R (.cons .here (.cons .here (.cons .here (.cons .here (.cons .here (.cons .here .nil)))))) .refl
    · obtain ⟨u24, u25, u26, rfl, rfl⟩ := p
      with_reducible refine go_ret ?_
      refine go_var rfl <| ?_
      exact h _ _ (R.fin (cs := [_, _, _]) (.cons (.there (.there (.there (.here)))) (.cons (.there (.there (.there (.here)))) (.cons (.there (.there (.there (.here)))) .nil))) (.skip (.skip (.skip (.refl)))))
def m__law_cell_at (l_script0 : (List Int)) (k0 : Int) : Res Empty (Int) :=  cond ((decide (k0 < (l_script0.length : Int)))) ((ixL l_script0 k0).bind fun x1 => .ok x1) ( .ok (0 : Int))
def sp__law_cell_at (K : PySem.W.Frag) : Sp := SpS fun vs pre k => ∃ (a_script0 : Addr) (b_script0 : BO) (l_script0 : (List Int)) (k0 : Int), vs = [.ref a_script0, .int k0] ∧ pre = [(a_script0, b_script0)] ∧ RdL K b_script0 l_script0 ∧ Out (m__law_cell_at l_script0 k0) (fun r => k (.int r) [(a_script0, b_script0)]) (fun _ => False)
def t__law_cell_at (K : PySem.W.Frag) : TS := tSeq (tIfS (tTest (tOp rLtI (tVar 1) (tCB (rLenV K) (tCons (tVar 0) (tNil))))) (tRet (tOp (rIxL K) (tVar 0) (tVar 1))) (tNext)) (tRet (tC (.int (0))))
theorem pure__law_cell_at {K : PySem.W.Frag} {vs : List V} {H : Hp} {Q : VK} {E : XK}  (hsp : sp__law_cell_at K vs H Q E) : t__law_cell_at K (endsOf Q) (start ["_law_script", "_law_k"] vs) H := by
  obtain ⟨pre, F, R, a_script0, b_script0, l_script0, k0, rfl, rfl, rd_script0, h⟩ := hsp.use
  unfold m__law_cell_at at h
  unfold t__law_cell_at
  with_reducible refine go_seq ?_
  with_reducible refine go_ifS ?_
  refine go_test <| go_op <| go_var rfl <| go_CB <| go_cons <| go_var rfl <| go_nil <| st_len R (HasL.of .here rd_script0) <| go_I0 <| go_bl <| st_ite h (fun hc h => ?_) (fun hc h => ?_)
  · with_reducible refine go_ret ?_
    refine go_op <| go_var rfl <| go_var rfl <| st_ixI R (HasL.of .here rd_script0) h fun x1 h => ?_
    exact h _ (R.fin (cs := [_]) (.cons .here .nil) .refl)
  · with_reducible refine go_next ?_
    with_reducible refine go_ret ?_
    refine go_c <| ?_
    exact h _ (R.fin (cs := [_]) (.cons .here .nil) .refl)
def m__law_mix (cell0 : Int) (k0 : Int) : Res Empty (Int) :=  (mulI ((((((cell0 % (2147483647 : Int)) + ((7919 : Int) * k0)) + (17 : Int)) * (48271 : Int)) % (2147483647 : Int))) ((((((cell0 % (2147483647 : Int)) + ((7919 : Int) * k0)) + (17 : Int)) * (48271 : Int)) % (2147483647 : Int)))).bind fun x1 => .ok (x1 % (1000003 : Int))
def sp__law_mix (K : PySem.W.Frag) : Sp := SpS fun vs pre k => ∃ (cell0 : Int) (k0 : Int), vs = [.int cell0, .int k0] ∧ pre = [] ∧ Out (m__law_mix cell0 k0) (fun r => k (.int r) []) (fun _ => False)
def t__law_mix (K : PySem.W.Frag) : TS := tSeq (tAsg (tOp rModI (tOp rMulI (tOp rAddI (tOp rAddI (tOp rModI (tVar 0) (tC (.int (2147483647)))) (tOp rMulI (tC (.int (7919))) (tVar 1))) (tC (.int (17)))) (tC (.int (48271)))) (tC (.int (2147483647)))) (gName 2)) (tRet (tOp rModI (tOp rMulI (tVar 2) (tVar 2)) (tC (.int (1000003)))))
theorem pure__law_mix {K : PySem.W.Frag} {vs : List V} {H : Hp} {Q : VK} {E : XK}  (hsp : sp__law_mix K vs H Q E) : t__law_mix K (endsOf Q) (start ["_law_cell", "_law_k", "_law_m"] vs) H := by
  obtain ⟨pre, F, R, cell0, k0, rfl, rfl, h⟩ := hsp.use
  unfold m__law_mix at h
  unfold t__law_mix
  with_reducible refine go_seq ?_
  with_reducible refine go_asg ?_
  refine go_op <| go_op <| go_op <| go_op <| go_op <| go_var rfl <| go_c <| go_I (by decide) <| go_op <| go_c <| go_var rfl <| go_I (.inl ⟨by decide, by decide⟩) <| go_I0 <| go_c <| go_I0 <| go_c <| go_I (.inr ⟨by decide, by decide⟩) <| go_c <| go_I (by decide) <| go_name <| ?_
  with_reducible refine go_ret ?_
  refine go_op <| go_op <| go_var rfl <| go_var rfl <| st_mul h fun x1 h => ?_
  refine go_c <| go_I (by decide) <| ?_
  exact h _ (R.fin (cs := []) .nil .refl)
def m__law_newest (m_chip0 : ChipM) (size0 : Int) : Res Empty ((T2 (List (Int × (T3 Int Int Int))) (T2 Int Int))) :=  (rng1 size0).bind fun x2 => (foldR (fun (s3 : (List (T4 Int Int Int Int))) (x11 : Int) => ((m_Chip_read m_chip0 x11).bind fun r13 =>  oC r13 ( .ok s3) (fun y15 => (appL s3 ((T4.mk ((y15.a / 2 ^ ((7 : Int) : Int).toNat)) ((Builtin.bitAnd y15.a ((127 : Int)))) x11 y15.b))).bind fun x20 =>  .ok x20) : Res Empty _)) ([] : (List (T4 Int Int Int Int))) x2).then_ fun s3 =>   (sortT_ s3).bind fun x23 => (foldR (fun (s25 : (T2 Int Int) × (List (Int × (T3 Int Int Int)))) (x32 : (T4 Int Int Int Int)) => ( cond ((decide (x32.b = (64 : Int)))) (  .ok ((T2.mk x32.a x32.d), s25.2)) ((putD_ s25.2 x32.b ((T3.mk x32.a x32.c x32.d))).bind fun x40 =>  .ok (s25.1, x40)) : Res Empty _)) ((T2.mk ((0 : Int)) ((0 : Int))), ([] : (List (Int × (T3 Int Int Int))))) x23).then_ fun s25 =>  .ok (T2.mk s25.2 s25.1)
def sp__law_newest (K : PySem.W.Frag) : Sp := SpS fun vs pre k => ∃ (p_chip0 : Addr) (x_chip0 : ChipX) (m_chip0 : ChipM) (size0 : Int), vs = [.ref p_chip0, .int size0] ∧ pre = [chipO K p_chip0 m_chip0 x_chip0] ∧ Out (m__law_newest m_chip0 size0) (fun r => ∀ z1 : Addr, ∀ z2 : Addr, ∀ z3 : V, k (.ref z1) [(z1, tupO [.ref z2, z3]), (z2, dcF (r.a : (List (Int × (T3 Int Int Int))))), CF (r.b : (T2 Int Int)) z3, chipO K p_chip0 m_chip0 x_chip0]) (fun _ => False)
def t__law_newest (K : PySem.W.Frag) : TS := tSeq (tAsg (tLst (tNil)) (gName 2)) (tSeq (tFor (iRng1 (tCons (tVar 1) (tNil))) (gName 3) (tSeq (tAsg (tMeth (He.ga K "Chip") "read" (sp_Chip_read K) [] E0 (tVar 0) (tCons (tVar 3) (tNil))) (gName 4)) (tIfS (tTest (tOp rNotN (tVar 4) (tC .non))) (tDrop (tBM K "list" rAppend (tVar 2) (tCons (tTup (tCons (tOp rShrI (tOp (rIxT K) (tVar 4) (tC (.int (0)))) (tC (.int (7)))) (tCons (tOp rAndI (tOp (rIxT K) (tVar 4) (tC (.int (0)))) (tC (.int (127)))) (tCons (tVar 3) (tCons (tOp (rIxT K) (tVar 4) (tC (.int (1)))) (tNil)))))) (tNil)))) (tNext)))) (tSeq (tAsg (tDNewK) (gName 5)) (tSeq (tAsg (tTup (tCons (tC (.int (0))) (tCons (tC (.int (0))) (tNil)))) (gName 6)) (tSeq (tFor (iList K (tCB (rSortU K 4 sortB) (tCons (tVar 2) (tNil)))) (gTup K 4 (gCons (gName 7) (gCons (gName 8) (gCons (gName 3) (gCons (gName 9) (gNil)))))) (tIfS (tTest (tOp rEq (tVar 8) (tC (.int (64))))) (tAsg (tTup (tCons (tVar 7) (tCons (tVar 9) (tNil)))) (gName 6)) (sDPut (tVar 5) (tVar 8) (tTup (tCons (tVar 7) (tCons (tVar 3) (tCons (tVar 9) (tNil)))))))) (tRet (tTup (tCons (tVar 5) (tCons (tVar 6) (tNil)))))))))
theorem pure__law_newest {K : PySem.W.Frag} {vs : List V} {H : Hp} {Q : VK} {E : XK}  (hsp : sp__law_newest K vs H Q E) : t__law_newest K (endsOf Q) (start ["_law_chip", "_law_size", "_law_rows", "_law_page_here", "_law_stuff", "_law_newest_here", "_law_roll", "_law_stamp", "_law_name_here", "_law_value"] vs) H := by
  obtain ⟨pre, F, R, p_chip0, x_chip0, m_chip0, size0, rfl, rfl, h⟩ := hsp.use
  unfold m__law_newest at h
  unfold t__law_newest
  with_reducible refine go_seq ?_
  with_reducible refine go_asg ?_
  refine go_lst <| go_nil <| st_new (xs := ([] : (List (T4 Int Int Int Int)))) R .nil (by show 0 ≤ 1000; decide) fun a1 H R => ?_
  refine go_name <| ?_
  with_reducible refine go_seq ?_
  with_reducible refine go_for ?_
  refine go_iRng1 <| go_cons <| go_var rfl <| go_nil <| st_rng1 h fun x2 w h => ?_
  refine st_for (S := (List (T4 Int Int Int Int))) w (fun s3 σ L => ∃ (u4 : Option V) (u5 : Option V) (u6 : Option V) (u7 : Option V) (u8 : Option V) (u9 : Option V) (u10 : Option V), σ = [some (.ref p_chip0), some (.int size0), some (.ref a1), u4, u5, u6, u7, u8, u9, u10] ∧ L = (a1, lsF (s3 : (List (T4 Int Int Int Int)))) :: chipO K p_chip0 m_chip0 x_chip0 :: F) (R.fin (cs := [_, _]) (.cons .here (.cons .here .nil)) .refl) h ⟨_, _, _, _, _, _, _, rfl, rfl⟩ (fun _ _ _ _ => trivial) (fun s3 x11 v12 cs σ H L ys p hy R h => ?_) (fun s3 σ H L R p h => ?_)
  · obtain ⟨u4, u5, u6, u7, u8, u9, u10, rfl, rfl⟩ := p
    obtain ⟨rfl, rfl⟩ := hy
    refine go_name <| ?_
    with_reducible refine go_seq ?_
    with_reducible refine go_asg ?_
    refine go_meth <| go_var rfl <| methChip (fun _ _ _ _ _ _ _ _ _ _ => by kernel_rfl) R (.there (.here)) <| go_cons <| go_var rfl <| go_nil <| SpS.call R (.cons (.there (.here)) .nil) ⟨_, _, _, x11, rfl, rfl, Out.use h fun r13 h v14 H R => ?_⟩
    refine go_name <| ?_
    with_reducible refine go_ifS ?_
    refine go_test <| go_op <| go_var rfl <| go_c <| ?_
    have hn := R.atC .here
    cases ho : r13 with
    | none =>
      rw [ho] at h
      rw [ho] at R hn
      obtain rfl := hn
      refine go_rNotN <| go_bl <| ite_f rfl ?_
      replace h := oC_none h
      with_reducible refine go_next ?_
      with_reducible refine go_loop ?_
      exact loop_end (cs := [_, _]) s3 h ⟨_, _, _, _, _, _, _, rfl, rfl⟩ R (.cons (.there (.there (.here))) (.cons (.there (.here)) .nil)) (.skip (.refl))
    | some y15 =>
      rw [ho] at h
      rw [ho] at R hn
      refine go_rNotN <| go_bl <| ite_t (by rw [decide_eq_false (fr_nn2 hn)]; rfl) ?_
      replace h := oC_some h
      replace R := R.some .here
      with_reducible refine go_drop ?_
      refine go_bm <| go_var rfl <| st_bmL R (HasL.of (.there (.there (.here))) RdL.ls) <| go_cons <| go_tup <| go_cons <| go_op <| go_op <| go_var rfl <| go_c <| st_2a R .here fun w16 hw => ?_
      obtain rfl : w16 = .int y15.a := hw
      refine go_c <| go_I (by decide) <| go_cons <| go_op <| go_op <| go_var rfl <| go_c <| st_2a R .here fun w17 hw => ?_
      obtain rfl : w17 = .int y15.a := hw
      refine go_c <| go_I0 <| go_cons <| go_var rfl <| go_cons <| go_op <| go_var rfl <| go_c <| st_2b R .here fun w18 hw => ?_
      obtain rfl : w18 = .int y15.b := hw
      refine go_nil <| st_mk4 (x := (y15.a / 2 ^ ((7 : Int) : Int).toNat)) (y := (Builtin.bitAnd y15.a ((127 : Int)))) (z := x11) (u := y15.b) R rfl rfl rfl rfl fun a19 H R => ?_
      refine go_nil <| st_app (x := (T4.mk ((y15.a / 2 ^ ((7 : Int) : Int).toNat)) ((Builtin.bitAnd y15.a ((127 : Int)))) x11 y15.b)) R (MutL.of (.there (.there (.there (.here))))) (R.atC .here) h fun x20 H R h => ?_
      with_reducible refine go_loop ?_
      exact loop_end (cs := [_, _]) x20 h ⟨_, _, _, _, _, _, _, rfl, rfl⟩ R (.cons .here (.cons (.there (.there (.here))) .nil)) (.skip (.skip (.refl)))
  · obtain ⟨u4, u5, u6, u7, u8, u9, u10, rfl, rfl⟩ := p
    with_reducible refine go_seq ?_
    with_reducible refine go_asg ?_
    refine st_dnew (κ := Int) (α := (T3 Int Int Int)) R fun a21 H R => ?_
    refine go_name <| ?_
    with_reducible refine go_seq ?_
    with_reducible refine go_asg ?_
    refine go_tup <| go_cons <| go_c <| go_cons <| go_c <| go_nil <| st_mk2 (x := (0 : Int)) (y := (0 : Int)) R rfl rfl fun a22 H R => ?_
    refine go_name <| ?_
    with_reducible refine go_seq ?_
    with_reducible refine go_for ?_
    refine go_iList <| go_CB <| go_cons <| go_var rfl <| go_nil <| st_sortT R (HasL.of (.there (.there (.here))) RdL.ls) h fun x23 a24 H R h => ?_
    refine st_iList R (HasL.of .here RdL.ls) <| st_for (S := (T2 Int Int) × (List (Int × (T3 Int Int Int)))) wk_has (fun s25 σ L => ∃ (v26 : V) (u27 : Option V) (u28 : Option V) (u29 : Option V) (u30 : Option V) (u31 : Option V), σ = [some (.ref p_chip0), some (.int size0), some (.ref a1), u27, u28, some (.ref a21), some (v26), u29, u30, u31] ∧ L = CF (s25.1 : (T2 Int Int)) v26 :: (a24, lsF (x23 : (List (T4 Int Int Int Int)))) :: (a21, dcF (s25.2 : (List (Int × (T3 Int Int Int))))) :: (a1, lsF (s3 : (List (T4 Int Int Int Int)))) :: chipO K p_chip0 m_chip0 x_chip0 :: F) (R.fin (cs := [_, _, _, _, _]) (.cons (.there (.here)) (.cons .here (.cons .here (.cons .here (.cons .here .nil))))) .refl) h ⟨_, _, _, _, _, _, rfl, rfl⟩ (fun s σ L p => by obtain ⟨v26, u27, u28, u29, u30, u31, rfl, rfl⟩ := p; exact (HasL.of (.there (.here)) RdL.ls)) (fun s25 x32 v33 cs σ H L ys p hy R h => ?_) (fun s25 σ H L R p h => ?_)
    · obtain ⟨v26, u27, u28, u29, u30, u31, rfl, rfl⟩ := p
      obtain rfl := hy
      refine st_un4 R .here fun w34 w35 w36 w37 hw34 hw35 hw36 hw37 => ?_
      obtain rfl : w34 = .int x32.a := hw34
      obtain rfl : w35 = .int x32.b := hw35
      obtain rfl : w36 = .int x32.c := hw36
      obtain rfl : w37 = .int x32.d := hw37
      refine go_gcons <| go_name <| go_gcons <| go_name <| go_gcons <| go_name <| go_gcons <| go_name <| go_gnil <| ?_
      with_reducible refine go_ifS ?_
      refine go_test <| go_op <| go_var rfl <| go_c <| st_eqI <| go_bl <| st_ite h (fun hc h => ?_) (fun hc h => ?_)
      · with_reducible refine go_asg ?_
        refine go_tup <| go_cons <| go_var rfl <| go_cons <| go_var rfl <| go_nil <| st_mk2 (x := x32.a) (y := x32.d) R rfl rfl fun a38 H R => ?_
        refine go_name <| ?_
        with_reducible refine go_loop ?_
        exact loop_end (cs := [_, _, _, _, _]) ((T2.mk x32.a x32.d), s25.2) h ⟨_, _, _, _, _, _, rfl, rfl⟩ R (.cons .here (.cons (.there (.there (.here))) (.cons (.there (.there (.here))) (.cons (.there (.there (.here))) (.cons (.there (.there (.here))) .nil))))) (.skip (.skip (.refl)))
      · with_reducible refine go_dput ?_
        refine go_tup <| go_cons <| go_var rfl <| go_cons <| go_var rfl <| go_cons <| go_var rfl <| go_nil <| st_mk3 (x := x32.a) (y := x32.c) (z := x32.d) R rfl rfl rfl fun a39 H R => ?_
        refine go_cf <| go_var rfl <| go_var rfl <| st_dput (x := (T3.mk x32.a x32.c x32.d)) R (MutD.of (.there (.there (.there (.there (.here)))))) rfl (R.atC .here) h fun x40 H R h => ?_
        with_reducible refine go_loop ?_
        exact loop_end (cs := [_, _, _, _, _]) (s25.1, x40) h ⟨_, _, _, _, _, _, rfl, rfl⟩ R (.cons (.there (.there (.there (.here)))) (.cons (.there (.there (.there (.here)))) (.cons .here (.cons (.there (.there (.here))) (.cons (.there (.there (.here))) .nil))))) (.skip (.skip (.refl)))
    · obtain ⟨v26, u27, u28, u29, u30, u31, rfl, rfl⟩ := p
      with_reducible refine go_ret ?_
      refine go_tup <| go_cons <| go_var rfl <| go_cons <| go_var rfl <| go_nil <| tup_new R (by simp) fun a41 H R => ?_
      exact h _ _ _ _ (R.fin (cs := [_, _, _, _]) (.cons .here (.cons (.there (.there (.here))) (.cons .here (.cons (.there (.there (.here))) .nil)))) (.skip (.skip (.refl))))
def m__law_found (m_chip0 : ChipM) (size0 : Int) : Res Empty ((List (Int × (T2 Int Int)))) := (m__law_newest m_chip0 size0).bind fun r1 =>  (sortD_ r1.a).bind fun x6 => (foldR (fun (s8 : (List (Int × (T2 Int Int)))) (x13 : Int) => ((getD_ r1.a x13).bind fun x15 => (orR ((decide (r1.b.a < x15.a))) ((shrI r1.b.b x13).bind fun x22 => .ok ((decide ((Builtin.bitAnd x22 ((1 : Int))) = (1 : Int)))))).then_ fun b23 => cond b23 ((putD_ s8 x13 ((T2.mk x15.b x15.c))).bind fun x25 =>  .ok x25) ( .ok s8) : Res Empty _)) ([] : (List (Int × (T2 Int Int)))) x6).then_ fun s8 =>  .ok s8
def sp__law_found (K : PySem.W.Frag) : Sp := SpS fun vs pre k => ∃ (p_chip0 : Addr) (x_chip0 : ChipX) (m_chip0 : ChipM) (size0 : Int), vs = [.ref p_chip0, .int size0] ∧ pre = [chipO K p_chip0 m_chip0 x_chip0] ∧ Out (m__law_found m_chip0 size0) (fun r => ∀ z1 : Addr, k (.ref z1) [(z1, dcF (r : (List (Int × (T2 Int Int))))), chipO K p_chip0 m_chip0 x_chip0]) (fun _ => False)
def t__law_found (K : PySem.W.Frag) : TS := tSeq (tAsg (tCall (sp__law_newest K) [] E0 (tCons (tVar 0) (tCons (tVar 1) (tNil)))) (gTup K 2 (gCons (gName 2) (gCons (gName 3) (gNil))))) (tSeq (tAsg (tDNewK) (gName 4)) (tSeq (tFor (iList K (tCB rSortedDI (tCons (tVar 2) (tNil)))) (gName 5) (tSeq (tAsg (tDGet (tVar 2) (tVar 5)) (gTup K 3 (gCons (gName 6) (gCons (gName 7) (gCons (gName 8) (gNil)))))) (tIfS (tOr (tTest (tOp rGtI (tVar 6) (tOp (rIxT K) (tVar 3) (tC (.int (0)))))) (tTest (tOp rEq (tOp rAndI (tOp rShrI (tOp (rIxT K) (tVar 3) (tC (.int (1)))) (tVar 5)) (tC (.int (1)))) (tC (.int (1)))))) (sDPut (tVar 4) (tVar 5) (tTup (tCons (tVar 7) (tCons (tVar 8) (tNil))))) (tNext)))) (tRet (tVar 4))))
theorem pure__law_found {K : PySem.W.Frag} {vs : List V} {H : Hp} {Q : VK} {E : XK}  (hsp : sp__law_found K vs H Q E) : t__law_found K (endsOf Q) (start ["_law_chip", "_law_size", "_law_newest_here", "_law_roll", "_law_found_here", "_law_name_here", "_law_stamp", "_law_page_here", "_law_value"] vs) H := by
  obtain ⟨pre, F, R, p_chip0, x_chip0, m_chip0, size0, rfl, rfl, h⟩ := hsp.use
  unfold m__law_found at h
  unfold t__law_found
  with_reducible refine go_seq ?_
  with_reducible refine go_asg ?_
  refine go_call <| go_cons <| go_var rfl <| go_cons <| go_var rfl <| go_nil <| SpS.call R (.cons .here .nil) ⟨_, _, _, size0, rfl, rfl, Out.use h fun r1 h q2 a3 v4 H R => ?_⟩
  refine gtup_at R .here rfl <| go_gcons <| go_name <| go_gcons <| go_name <| go_gnil <| ?_
  with_reducible refine go_seq ?_
  with_reducible refine go_asg ?_
  refine st_dnew (κ := Int) (α := (T2 Int Int)) R fun a5 H R => ?_
  refine go_name <| ?_
  with_reducible refine go_seq ?_
  with_reducible refine go_for ?_
  refine go_iList <| go_CB <| go_cons <| go_var rfl <| go_nil <| st_sortD R (MutD.of (.there (.there (.here)))).has h fun x6 a7 H R h => ?_
  refine st_iList R (HasL.of .here RdL.ls) <| st_for (S := (List (Int × (T2 Int Int)))) wk_sc (fun s8 σ L => ∃ (u9 : Option V) (u10 : Option V) (u11 : Option V) (u12 : Option V), σ = [some (.ref p_chip0), some (.int size0), some (.ref a3), some (v4), some (.ref a5), u9, u10, u11, u12] ∧ L = (a7, lsF (x6 : (List Int))) :: (a5, dcF (s8 : (List (Int × (T2 Int Int))))) :: (a3, dcF (r1.a : (List (Int × (T3 Int Int Int))))) :: CF (r1.b : (T2 Int Int)) v4 :: chipO K p_chip0 m_chip0 x_chip0 :: F) (R.fin (cs := [_, _, _, _, _]) (.cons .here (.cons .here (.cons (.there (.here)) (.cons (.there (.here)) (.cons (.there (.here)) .nil))))) (.skip (.refl))) h ⟨_, _, _, _, rfl, rfl⟩ (fun s σ L p => by obtain ⟨u9, u10, u11, u12, rfl, rfl⟩ := p; exact (HasL.of .here RdL.ls)) (fun s8 x13 v14 cs σ H L ys p hy R h => ?_) (fun s8 σ H L R p h => ?_)
  · obtain ⟨u9, u10, u11, u12, rfl, rfl⟩ := p
    obtain ⟨rfl, rfl⟩ := hy
    refine go_name <| ?_
    with_reducible refine go_seq ?_
    with_reducible refine go_asg ?_
    refine go_dget <| go_var rfl <| go_var rfl <| st_dgetF R (MutD.of (.there (.there (.here)))).has rfl h fun x15 v16 R h => ?_
    refine st_un3 R .here fun w17 w18 w19 hw17 hw18 hw19 => ?_
    obtain rfl : w17 = .int x15.a := hw17
    obtain rfl : w18 = .int x15.b := hw18
    obtain rfl : w19 = .int x15.c := hw19
    refine go_gcons <| go_name <| go_gcons <| go_name <| go_gcons <| go_name <| go_gnil <| ?_
    with_reducible refine go_ifS ?_
    refine gn_or <| go_test <| go_op <| go_var rfl <| go_op <| go_var rfl <| go_c <| st_2a R (.there (.there (.there (.there (.here))))) fun w20 hw => ?_
    obtain rfl : w20 = .int r1.b.a := hw
    refine go_I0 <| go_bl <| st_orC R h (fun b23 H R h => ?_) (fun k h => ?_)
    rotate_left
    · refine go_test <| go_op <| go_op <| go_op <| go_op <| go_var rfl <| go_c <| st_2b R (.there (.there (.there (.there (.here))))) fun w21 hw => ?_
      obtain rfl : w21 = .int r1.b.b := hw
      refine go_var rfl <| st_shr h fun x22 h => ?_
      refine go_c <| go_I0 <| go_c <| st_eqI <| go_bl <| ?_
      exact k _ _ (R.fin (cs := [_, _, _, _, _, _]) (.cons .here (.cons .here (.cons .here (.cons .here (.cons .here (.cons .here .nil)))))) .refl) h
    refine st_ite h (fun hc h => ?_) (fun hc h => ?_)
    · with_reducible refine go_dput ?_
      refine go_tup <| go_cons <| go_var rfl <| go_cons <| go_var rfl <| go_nil <| st_mk2 (x := x15.b) (y := x15.c) R rfl rfl fun a24 H R => ?_
      refine go_cf <| go_var rfl <| go_var rfl <| st_dput (x := (T2.mk x15.b x15.c)) R (MutD.of (.there (.there (.there (.here))))) rfl (R.atC .here) h fun x25 H R h => ?_
      with_reducible refine go_loop ?_
      exact loop_end (cs := [_, _, _, _, _]) x25 h ⟨_, _, _, _, rfl, rfl⟩ R (.cons (.there (.there (.there (.here)))) (.cons .here (.cons (.there (.there (.here))) (.cons (.there (.there (.here))) (.cons (.there (.there (.here))) .nil))))) (.skip (.skip (.refl)))
    · with_reducible refine go_next ?_
      with_reducible refine go_loop ?_
      exact loop_end (cs := [_, _, _, _, _]) s8 h ⟨_, _, _, _, rfl, rfl⟩ R (.cons (.there (.here)) (.cons (.there (.here)) (.cons (.there (.here)) (.cons (.there (.here)) (.cons (.there (.here)) .nil))))) (.skip (.refl))
  · obtain ⟨u9, u10, u11, u12, rfl, rfl⟩ := p
    with_reducible refine go_ret ?_
    refine go_var rfl <| ?_
    exact h _ _ (R.fin (cs := [_, _]) (.cons (.there (.here)) (.cons (.there (.there (.there (.here)))) .nil)) (.skip (.skip (.skip (.refl)))))
def m__law_name (k0 : Int) (way0 : Int) : Res Empty (Int) := (mulI k0 (((1 : Int) + (way0 % (12 : Int))))).bind fun x1 =>  cond ((decide (((way0 / (12 : Int)) % (2 : Int)) = (1 : Int)))) ( .ok ((63 : Int) - x1)) ( .ok x1)
def sp__law_name (K : PySem.W.Frag) : Sp := SpS fun vs pre k => ∃ (k0 : Int) (way0 : Int), vs = [.int k0, .int way0] ∧ pre = [] ∧ Out (m__law_name k0 way0) (fun r => k (.int r) []) (fun _ => False)
def t__law_name (K : PySem.W.Frag) : TS := tSeq (tAsg (tOp rMulI (tVar 0) (tOp rAddI (tC (.int (1))) (tOp rModI (tVar 1) (tC (.int (12)))))) (gName 2)) (tSeq (tIfS (tTest (tOp rEq (tOp rModI (tOp rDivI (tVar 1) (tC (.int (12)))) (tC (.int (2)))) (tC (.int (1))))) (tRet (tOp rSubI (tC (.int (63))) (tVar 2))) (tNext)) (tRet (tVar 2)))
theorem pure__law_name {K : PySem.W.Frag} {vs : List V} {H : Hp} {Q : VK} {E : XK}  (hsp : sp__law_name K vs H Q E) : t__law_name K (endsOf Q) (start ["_law_k", "_law_way", "_law_name_here"] vs) H := by
  obtain ⟨pre, F, R, k0, way0, rfl, rfl, h⟩ := hsp.use
  unfold m__law_name at h
  unfold t__law_name
  with_reducible refine go_seq ?_
  with_reducible refine go_asg ?_
  refine go_op <| go_var rfl <| go_op <| go_c <| go_op <| go_var rfl <| go_c <| go_I (by decide) <| go_I0 <| st_mul h fun x1 h => ?_
  refine go_name <| ?_
  with_reducible refine go_seq ?_
  with_reducible refine go_ifS ?_
  refine go_test <| go_op <| go_op <| go_op <| go_var rfl <| go_c <| go_I ⟨by decide, by decide⟩ <| go_c <| go_I (by decide) <| go_c <| st_eqI <| go_bl <| st_ite h (fun hc h => ?_) (fun hc h => ?_)
  · with_reducible refine go_ret ?_
    refine go_op <| go_c <| go_var rfl <| go_I0 <| ?_
    exact h _ (R.fin (cs := []) .nil .refl)
  · with_reducible refine go_next ?_
    with_reducible refine go_ret ?_
    refine go_var rfl <| ?_
    exact h _ (R.fin (cs := []) .nil .refl)
def m__law_bits (cell0 : Int) (way0 : Int) : Res Empty (Int) :=  (rng1 ((6 : Int))).bind fun x1 => (foldR (fun (s2 : Int) (x4 : Int) => ((m__law_mix cell0 x4).bind fun r6 => cond ((!decide ((r6 % (4 : Int)) = (0 : Int)))) ((m__law_name x4 way0).bind fun r7 => (shlI ((1 : Int)) r7).bind fun x8 =>  .ok (Builtin.bitOr s2 x8)) ( .ok s2) : Res Empty _)) (0 : Int) x1).then_ fun s2 =>  .ok s2
def sp__law_bits (K : PySem.W.Frag) : Sp := SpS fun vs pre k => ∃ (cell0 : Int) (way0 : Int), vs = [.int cell0, .int way0] ∧ pre = [] ∧ Out (m__law_bits cell0 way0) (fun r => k (.int r) []) (fun _ => False)
def t__law_bits (K : PySem.W.Frag) : TS := tSeq (tAsg (tC (.int (0))) (gName 2)) (tSeq (tFor (iRng1 (tCons (tC (.int (6))) (tNil))) (gName 3) (tIfS (tTest (tOp rNe (tOp rModI (tCall (sp__law_mix K) [] E0 (tCons (tVar 0) (tCons (tVar 3) (tNil)))) (tC (.int (4)))) (tC (.int (0))))) (tAsg (tOp rOrI (tVar 2) (tOp rShlI (tC (.int (1))) (tCall (sp__law_name K) [] E0 (tCons (tVar 3) (tCons (tVar 1) (tNil)))))) (gName 2)) (tNext))) (tRet (tVar 2)))
theorem pure__law_bits {K : PySem.W.Frag} {vs : List V} {H : Hp} {Q : VK} {E : XK}  (hsp : sp__law_bits K vs H Q E) : t__law_bits K (endsOf Q) (start ["_law_cell", "_law_way", "_law_bits_here", "_law_k"] vs) H := by
  obtain ⟨pre, F, R, cell0, way0, rfl, rfl, h⟩ := hsp.use
  unfold m__law_bits at h
  unfold t__law_bits
  with_reducible refine go_seq ?_
  with_reducible refine go_asg ?_
  refine go_c <| go_name <| ?_
  with_reducible refine go_seq ?_
  with_reducible refine go_for ?_
  refine go_iRng1 <| go_cons <| go_c <| go_nil <| st_rng1 h fun x1 w h => ?_
  refine st_for (S := Int) w (fun s2 σ L => ∃ (u3 : Option V), σ = [some (.int cell0), some (.int way0), some (.int s2), u3] ∧ L = F) (R.fin (cs := []) .nil .refl) h ⟨_, rfl, rfl⟩ (fun _ _ _ _ => trivial) (fun s2 x4 v5 cs σ H L ys p hy R h => ?_) (fun s2 σ H L R p h => ?_)
  · obtain ⟨u3, rfl, hL⟩ := p
    rw [hL] at R
    obtain ⟨rfl, rfl⟩ := hy
    refine go_name <| ?_
    with_reducible refine go_ifS ?_
    refine go_test <| go_op <| go_op <| go_call <| go_cons <| go_var rfl <| go_cons <| go_var rfl <| go_nil <| SpS.call R .nil ⟨cell0, x4, rfl, rfl, Out.use h fun r6 h H R => ?_⟩
    refine go_c <| go_I (by decide) <| go_c <| st_neI <| go_bl <| st_ite h (fun hc h => ?_) (fun hc h => ?_)
    · with_reducible refine go_asg ?_
      refine go_op <| go_var rfl <| go_op <| go_c <| go_call <| go_cons <| go_var rfl <| go_cons <| go_var rfl <| go_nil <| SpS.call R .nil ⟨x4, way0, rfl, rfl, Out.use h fun r7 h H R => ?_⟩
      refine st_shl h fun x8 h => ?_
      refine go_I0 <| go_name <| ?_
      with_reducible refine go_loop ?_
      exact loop_end (cs := []) (Builtin.bitOr s2 x8) h ⟨_, rfl, rfl⟩ R .nil .refl
    · with_reducible refine go_next ?_
      with_reducible refine go_loop ?_
      exact loop_end (cs := []) s2 h ⟨_, rfl, rfl⟩ R .nil .refl
  · obtain ⟨u3, rfl, hL⟩ := p
    rw [hL] at R
    with_reducible refine go_ret ?_
    refine go_var rfl <| ?_
    exact h _ (R.fin (cs := []) .nil .refl)
def m__law_lay (m_chip0 : ChipM) (l_script0 : (List Int)) (blocks0 : Int) (pages0 : Int) (way0 : Int) : Res Empty (ChipM) := (repL (([(0 : Int)] : (List Int))) blocks0).bind fun x2 => (rng2 ((4 : Int)) ((min2 ((l_script0.length : Int)) ((34 : Int))))).bind fun x4 => (foldR (fun (s5 : ChipM × (List Int)) (x10 : Int) => ((ixL l_script0 x10).bind fun x12 => (modI x12 blocks0).bind fun x13 => (ixL s5.2 x13).bind fun x14 => cond ((decide (x14 < pages0))) ((ixL l_script0 x10).bind fun x15 => (m__law_name (((x15 / (7 : Int)) % (6 : Int))) way0).bind fun r16 =>  (ixL l_script0 x10).bind fun x17 => (m__law_mix x17 ((9 : Int))).bind fun r18 => (cond ((decide ((r18 % (7 : Int)) = (0 : Int)))) ( (ixL l_script0 x10).bind fun x27 => (m__law_bits x27 way0).bind fun r28 =>  .ok ((64 : Int), r28)) ( .ok (r16, x10)) : Res Empty (Int × Int)).then_ fun s19 => (mulI x13 pages0).bind fun x20 => (ixL s5.2 x13).bind fun x21 => (m_mark_of (((3 : Int) * x10)) s19.1).bind fun r22 => (m_Chip_put s5.1 ((x20 + x21)) ((T2.mk r22 s19.2))).bind fun r24 => (ixL s5.2 x13).bind fun x25 => (setL s5.2 x13 ((x25 + (1 : Int)))).bind fun ys26 =>  .ok (r24, ys26)) ( .ok (s5.1, s5.2)) : Res Empty _)) (m_chip0, x2) x4).then_ fun s5 =>  .ok s5.1
def sp__law_lay (K : PySem.W.Frag) : Sp := SpS fun vs pre k => ∃ (p_chip0 : Addr) (x_chip0 : ChipX) (m_chip0 : ChipM) (a_script0 : Addr) (b_script0 : BO) (l_script0 : (List Int)) (blocks0 : Int) (pages0 : Int) (way0 : Int), vs = [.ref p_chip0, .ref a_script0, .int blocks0, .int pages0, .int way0] ∧ pre = [chipO K p_chip0 m_chip0 x_chip0, (a_script0, b_script0)] ∧ RdL K b_script0 l_script0 ∧ Out (m__law_lay m_chip0 l_script0 blocks0 pages0 way0) (fun r => k .non [chipO K p_chip0 r x_chip0, (a_script0, b_script0)]) (fun _ => False)
def t__law_lay (K : PySem.W.Frag) : TS := tSeq (tAsg (tOp rRep (tLst (tCons (tC (.int (0))) (tNil))) (tVar 2)) (gName 5)) (tFor (iRng2 (tCons (tC (.int (4))) (tCons (tCB rMin2 (tCons (tCB (rLenV K) (tCons (tVar 1) (tNil))) (tCons (tC (.int (34))) (tNil)))) (tNil)))) (gName 6) (tSeq (tAsg (tOp rModI (tOp (rIxL K) (tVar 1) (tVar 6)) (tVar 2)) (gName 7)) (tIfS (tTest (tOp rLtI (tOp (rIxL K) (tVar 5) (tVar 7)) (tVar 3))) (tSeq (tAsg (tCall (sp__law_name K) [] E0 (tCons (tOp rModI (tOp rDivI (tOp (rIxL K) (tVar 1) (tVar 6)) (tC (.int (7)))) (tC (.int (6)))) (tCons (tVar 4) (tNil)))) (gName 8)) (tSeq (tAsg (tVar 6) (gName 9)) (tSeq (tIfS (tTest (tOp rEq (tOp rModI (tCall (sp__law_mix K) [] E0 (tCons (tOp (rIxL K) (tVar 1) (tVar 6)) (tCons (tC (.int (9))) (tNil)))) (tC (.int (7)))) (tC (.int (0))))) (tSeq (tAsg (tC (.int (64))) (gName 8)) (tAsg (tCall (sp__law_bits K) [] E0 (tCons (tOp (rIxL K) (tVar 1) (tVar 6)) (tCons (tVar 4) (tNil)))) (gName 9))) (tNext)) (tSeq (tDrop (tMeth (He.ga K "Chip") "put" (sp_Chip_put K) [] E0 (tVar 0) (tCons (tOp rAddI (tOp rMulI (tVar 7) (tVar 3)) (tOp (rIxL K) (tVar 5) (tVar 7))) (tCons (tTup (tCons (tCall (sp_mark_of K) [] E0 (tCons (tOp rMulI (tC (.int (3))) (tVar 6)) (tCons (tVar 8) (tNil)))) (tCons (tVar 9) (tNil)))) (tNil))))) (tAsg (tOp rAddI (tOp (rIxL K) (tVar 5) (tVar 7)) (tC (.int (1)))) (gSub (tVar 5) (tVar 7) rSetL)))))) (tNext))))
theorem pure__law_lay {K : PySem.W.Frag} {vs : List V} {H : Hp} {Q : VK} {E : XK}  (hsp : sp__law_lay K vs H Q E) : t__law_lay K (endsOf Q) (start ["_law_chip", "_law_script", "_law_blocks", "_law_pages", "_law_way", "_law_filled", "_law_k", "_law_block", "_law_name_here", "_law_value"] vs) H := by
  obtain ⟨pre, F, R, p_chip0, x_chip0, m_chip0, a_script0, b_script0, l_script0, blocks0, pages0, way0, rfl, rfl, rd_script0, h⟩ := hsp.use
  unfold m__law_lay at h
  unfold t__law_lay
  with_reducible refine go_seq ?_
  with_reducible refine go_asg ?_
  refine go_op <| go_lst <| go_cons <| go_c <| go_nil <| st_new (xs := ([(0 : Int)] : (List Int))) R (.cons rfl .nil) (by show 1 ≤ 1000; decide) fun a1 H R => ?_
  refine go_var rfl <| st_rep R (MutL.of .here) h fun x2 a3 H R h => ?_
  refine go_name <| ?_
  with_reducible refine go_for ?_
  refine go_iRng2 <| go_cons <| go_c <| go_cons <| go_CB <| go_cons <| go_CB <| go_cons <| go_var rfl <| go_nil <| st_len R (HasL.of (.there (.there (.there (.here)))) rd_script0) <| go_cons <| go_c <| go_nil <| st_min2 <| go_nil <| st_rng2 h fun x4 w h => ?_
  refine st_for (S := ChipM × (List Int)) w (fun s5 σ L => ∃ (u6 : Option V) (u7 : Option V) (u8 : Option V) (u9 : Option V), σ = [some (.ref p_chip0), some (.ref a_script0), some (.int blocks0), some (.int pages0), some (.int way0), some (.ref a3), u6, u7, u8, u9] ∧ L = (a3, lsF (s5.2 : (List Int))) :: chipO K p_chip0 s5.1 x_chip0 :: (a_script0, b_script0) :: F) (R.fin (cs := [_, _, _]) (.cons .here (.cons (.there (.here)) (.cons (.there (.here)) .nil))) (.skip (.refl))) h ⟨_, _, _, _, rfl, rfl⟩ (fun _ _ _ _ => trivial) (fun s5 x10 v11 cs σ H L ys p hy R h => ?_) (fun s5 σ H L R p h => ?_)
  · obtain ⟨u6, u7, u8, u9, rfl, rfl⟩ := p
    obtain ⟨rfl, rfl⟩ := hy
    refine go_name <| ?_
    with_reducible refine go_seq ?_
    with_reducible refine go_asg ?_
    refine go_op <| go_op <| go_var rfl <| go_var rfl <| st_ixI R (HasL.of (.there (.there (.here))) rd_script0) h fun x12 h => ?_
    refine go_var rfl <| st_mod h fun x13 h => ?_
    refine go_name <| ?_
    with_reducible refine go_ifS ?_
    refine go_test <| go_op <| go_op <| go_var rfl <| go_var rfl <| st_ixI R (HasL.of .here RdL.ls) h fun x14 h => ?_
    refine go_var rfl <| go_I0 <| go_bl <| st_ite h (fun hc h => ?_) (fun hc h => ?_)
    · with_reducible refine go_seq ?_
      with_reducible refine go_asg ?_
      refine go_call <| go_cons <| go_op <| go_op <| go_op <| go_var rfl <| go_var rfl <| st_ixI R (HasL.of (.there (.there (.here))) rd_script0) h fun x15 h => ?_
      refine go_c <| go_I ⟨by decide, by decide⟩ <| go_c <| go_I (by decide) <| go_cons <| go_var rfl <| go_nil <| SpS.call R .nil ⟨((x15 / (7 : Int)) % (6 : Int)), way0, rfl, rfl, Out.use h fun r16 h H R => ?_⟩
      refine go_name <| ?_
      with_reducible refine go_seq ?_
      with_reducible refine go_asg ?_
      refine go_var rfl <| go_name <| ?_
      with_reducible refine go_seq ?_
      with_reducible refine go_ifS ?_
      refine go_test <| go_op <| go_op <| go_call <| go_cons <| go_op <| go_var rfl <| go_var rfl <| st_ixI R (HasL.of (.there (.there (.here))) rd_script0) h fun x17 h => ?_
      refine go_cons <| go_c <| go_nil <| SpS.call R .nil ⟨x17, (9 : Int), rfl, rfl, Out.use h fun r18 h H R => ?_⟩
      refine go_c <| go_I (by decide) <| go_c <| st_eqI <| go_bl <| st_join (α := Int × Int) (fun s19 σ L => σ = [some (.ref p_chip0), some (.ref a_script0), some (.int blocks0), some (.int pages0), some (.int way0), some (.ref a3), some (.int x10), some (.int x13), some (.int s19.1), some (.int s19.2)] ∧ L = (a3, lsF (s5.2 : (List Int))) :: chipO K p_chip0 s5.1 x_chip0 :: (a_script0, b_script0) :: F) h (fun s19 σ H L R p h => ?_) (fun J hc h => ?_) (fun J hc h => ?_)
      · obtain ⟨rfl, rfl⟩ := p
        with_reducible refine go_seq ?_
        with_reducible refine go_drop ?_
        refine go_meth <| go_var rfl <| methChip (fun _ _ _ _ _ _ _ _ _ _ => by kernel_rfl) R (.there (.here)) <| go_cons <| go_op <| go_op <| go_var rfl <| go_var rfl <| st_mul h fun x20 h => ?_
        refine go_op <| go_var rfl <| go_var rfl <| st_ixI R (HasL.of .here RdL.ls) h fun x21 h => ?_
        refine go_I0 <| go_cons <| go_tup <| go_cons <| go_call <| go_cons <| go_op <| go_c <| go_var rfl <| go_I (.inl ⟨by decide, by decide⟩) <| go_cons <| go_var rfl <| go_nil <| SpS.call R .nil ⟨((3 : Int) * x10), s19.1, rfl, rfl, Out.use h fun r22 h H R => ?_⟩
        refine go_cons <| go_var rfl <| go_nil <| st_mk2 (x := r22) (y := s19.2) R rfl rfl fun a23 H R => ?_
        refine go_nil <| SpS.call R (.cons (.there (.there (.here))) (.cons .here .nil)) ⟨_, _, _, (x20 + x21), _, _, rfl, rfl, Out.use h fun r24 h H R => ?_⟩
        with_reducible refine go_asg ?_
        refine go_op <| go_op <| go_var rfl <| go_var rfl <| st_ixI R (HasL.of (.there (.there (.here))) RdL.ls) h fun x25 h => ?_
        refine go_c <| go_I0 <| go_sub <| go_var rfl <| go_var rfl <| st_set (x := (x25 + (1 : Int))) R (MutL.of (.there (.there (.here)))) rfl h fun ys26 H R h => ?_
        with_reducible refine go_loop ?_
        exact loop_end (cs := [_, _, _]) (r24, ys26) h ⟨_, _, _, _, rfl, rfl⟩ R (.cons .here (.cons .here (.cons (.there (.here)) .nil))) (.skip (.refl))
      · with_reducible refine go_seq ?_
        with_reducible refine go_asg ?_
        refine go_c <| go_name <| ?_
        with_reducible refine go_asg ?_
        refine go_call <| go_cons <| go_op <| go_var rfl <| go_var rfl <| st_ixI R (HasL.of (.there (.there (.here))) rd_script0) h fun x27 h => ?_
        refine go_cons <| go_var rfl <| go_nil <| SpS.call R .nil ⟨x27, way0, rfl, rfl, Out.use h fun r28 h H R => ?_⟩
        refine go_name <| ?_
        exact J ((64 : Int), r28) _ _ _ (R.fin (cs := [_, _, _]) (.cons .here (.cons .here (.cons .here .nil))) .refl) ⟨rfl, rfl⟩ h
      · with_reducible refine go_next ?_
        exact J (r16, x10) _ _ _ (R.fin (cs := [_, _, _]) (.cons .here (.cons .here (.cons .here .nil))) .refl) ⟨rfl, rfl⟩ h
    · with_reducible refine go_next ?_
      with_reducible refine go_loop ?_
      exact loop_end (cs := [_, _, _]) (s5.1, s5.2) h ⟨_, _, _, _, rfl, rfl⟩ R (.cons .here (.cons .here (.cons .here .nil))) .refl
  · obtain ⟨u6, u7, u8, u9, rfl, rfl⟩ := p
    exact h _ (R.fin (cs := [_, _]) (.cons (.there (.here)) (.cons (.there (.here)) .nil)) (.skip (.refl)))
def m__law_page (cell0 : Int) (size0 : Int) : Res Empty (Int) := (modI cell0 ((((10 : Int) : Int) ^ ((20 : Int) : Int).toNat))).bind fun x1 => (modI cell0 ((((10 : Int) : Int) ^ ((20 : Int) : Int).toNat))).bind fun x2 =>  cond ((decide ((cell0 % (6 : Int)) = (0 : Int)))) ((ixL (([(-((1 : Int))), size0, ((-((7 : Int))) - x1), (size0 + x2)] : (List Int))) (((cell0 / (6 : Int)) % (4 : Int)))).bind fun x4 => .ok x4) ((modI ((cell0 / (6 : Int))) size0).bind fun x5 => .ok x5)
def sp__law_page (K : PySem.W.Frag) : Sp := SpS fun vs pre k => ∃ (cell0 : Int) (size0 : Int), vs = [.int cell0, .int size0] ∧ pre = [] ∧ Out (m__law_page cell0 size0) (fun r => k (.int r) []) (fun _ => False)
def t__law_page (K : PySem.W.Frag) : TS := tSeq (tAsg (tLst (tCons (tUn rNegI (tC (.int (1)))) (tCons (tVar 1) (tCons (tOp rSubI (tUn rNegI (tC (.int (7)))) (tOp rModI (tVar 0) (tOp rPowI (tC (.int (10))) (tC (.int (20)))))) (tCons (tOp rAddI (tVar 1) (tOp rModI (tVar 0) (tOp rPowI (tC (.int (10))) (tC (.int (20)))))) (tNil)))))) (gName 2)) (tSeq (tIfS (tTest (tOp rEq (tOp rModI (tVar 0) (tC (.int (6)))) (tC (.int (0))))) (tRet (tOp (rIxL K) (tVar 2) (tOp rModI (tOp rDivI (tVar 0) (tC (.int (6)))) (tC (.int (4)))))) (tNext)) (tRet (tOp rModI (tOp rDivI (tVar 0) (tC (.int (6)))) (tVar 1))))
theorem pure__law_page {K : PySem.W.Frag} {vs : List V} {H : Hp} {Q : VK} {E : XK}  (hsp : sp__law_page K vs H Q E) : t__law_page K (endsOf Q) (start ["_law_cell", "_law_size", "_law_some"] vs) H := by
  obtain ⟨pre, F, R, cell0, size0, rfl, rfl, h⟩ := hsp.use
  unfold m__law_page at h
  unfold t__law_page
  with_reducible refine go_seq ?_
  with_reducible refine go_asg ?_
  refine go_lst <| go_cons <| go_un <| go_c <| go_U <| go_cons <| go_var rfl <| go_cons <| go_op <| go_un <| go_c <| go_U <| go_op <| go_var rfl <| go_op <| go_c <| go_c <| go_I ⟨by decide, by decide, by decide⟩ <| st_mod h fun x1 h => ?_
  refine go_I0 <| go_cons <| go_op <| go_var rfl <| go_op <| go_var rfl <| go_op <| go_c <| go_c <| go_I ⟨by decide, by decide, by decide⟩ <| st_mod h fun x2 h => ?_
  refine go_I0 <| go_nil <| st_new (xs := ([(-((1 : Int))), size0, ((-((7 : Int))) - x1), (size0 + x2)] : (List Int))) R (.cons rfl (.cons rfl (.cons rfl (.cons rfl .nil)))) (by show 4 ≤ 1000; decide) fun a3 H R => ?_
  refine go_name <| ?_
  with_reducible refine go_seq ?_
  with_reducible refine go_ifS ?_
  refine go_test <| go_op <| go_op <| go_var rfl <| go_c <| go_I (by decide) <| go_c <| st_eqI <| go_bl <| st_ite h (fun hc h => ?_) (fun hc h => ?_)
  · with_reducible refine go_ret ?_
    refine go_op <| go_var rfl <| go_op <| go_op <| go_var rfl <| go_c <| go_I ⟨by decide, by decide⟩ <| go_c <| go_I (by decide) <| st_ixI R (HasL.of .here RdL.ls) h fun x4 h => ?_
    exact h _ (R.fin (cs := []) .nil (.skip (.refl)))
  · with_reducible refine go_next ?_
    with_reducible refine go_ret ?_
    refine go_op <| go_op <| go_var rfl <| go_c <| go_I ⟨by decide, by decide⟩ <| go_var rfl <| st_mod h fun x5 h => ?_
    exact h _ (R.fin (cs := []) .nil (.skip (.refl)))
def m__law_spoiled (l_told0 : (List (T2 Int Int))) (cell0 : Int) (size0 : Int) (way0 : Int) : Res Empty ((List (T2 Int Int))) := (modI ((cell0 / (5 : Int))) (((l_told0.length : Int) + (1 : Int)))).bind fun x1 => (m__law_page ((cell0 / (97 : Int))) size0).bind fun r2 => (m__law_mix cell0 ((3 : Int))).bind fun r3 => (m__law_name ((r3 % (6 : Int))) way0).bind fun r4 =>  cond ((((decide ((cell0 % (5 : Int)) = (0 : Int)))) || ((decide (x1 = (l_told0.length : Int)))))) ((catL ((cutL l_told0 none (some x1))) (([(T2.mk r4 r2)] : (List (T2 Int Int))))).bind fun x8 => (catL x8 ((cutL l_told0 (some x1) none))).bind fun x11 => .ok x11) ( cond ((decide ((cell0 % (5 : Int)) = (1 : Int)))) ((ixL l_told0 x1).bind fun x14 => (catL ((cutL l_told0 none (some x1))) (([(T2.mk x14.a r2)] : (List (T2 Int Int))))).bind fun x19 => (catL x19 ((cutL l_told0 (some ((x1 + (1 : Int)))) none))).bind fun x22 => .ok x22) ( cond ((decide ((cell0 % (5 : Int)) = (2 : Int)))) ((ixL l_told0 x1).bind fun x25 => (catL ((cutL l_told0 none (some x1))) (([(T2.mk r4 x25.b)] : (List (T2 Int Int))))).bind fun x30 => (catL x30 ((cutL l_told0 (some ((x1 + (1 : Int)))) none))).bind fun x33 => .ok x33) ( cond ((decide ((cell0 % (5 : Int)) = (3 : Int)))) ((catL ((cutL l_told0 none (some x1))) ((cutL l_told0 (some ((x1 + (1 : Int)))) none))).bind fun x37 => .ok x37) ((ixL l_told0 x1).bind fun x40 => (catL ((cutL l_told0 none (some x1))) (([x40] : (List (T2 Int Int))))).bind fun x43 => (catL x43 ((cutL l_told0 (some x1) none))).bind fun x46 => .ok x46))))
def sp__law_spoiled (K : PySem.W.Frag) : Sp := SpS fun vs pre k => ∃ (a_told0 : Addr) (b_told0 : BO) (l_told0 : (List (T2 Int Int))) (cell0 : Int) (size0 : Int) (way0 : Int), vs = [.ref a_told0, .int cell0, .int size0, .int way0] ∧ pre = [(a_told0, b_told0)] ∧ RdL K b_told0 l_told0 ∧ Out (m__law_spoiled l_told0 cell0 size0 way0) (fun r => ∀ z1 : Addr, k (.ref z1) [(z1, lsF (r : (List (T2 Int Int)))), (a_told0, b_told0)]) (fun _ => False)
def t__law_spoiled (K : PySem.W.Frag) : TS := tSeq (tAsg (tOp rModI (tOp rDivI (tVar 1) (tC (.int (5)))) (tOp rAddI (tCB (rLenV K) (tCons (tVar 0) (tNil))) (tC (.int (1))))) (gName 4)) (tSeq (tAsg (tCall (sp__law_page K) [] E0 (tCons (tOp rDivI (tVar 1) (tC (.int (97)))) (tCons (tVar 2) (tNil)))) (gName 5)) (tSeq (tAsg (tCall (sp__law_name K) [] E0 (tCons (tOp rModI (tCall (sp__law_mix K) [] E0 (tCons (tVar 1) (tCons (tC (.int (3))) (tNil)))) (tC (.int (6)))) (tCons (tVar 3) (tNil)))) (gName 6)) (tSeq (tIfS (tOr (tTest (tOp rEq (tOp rModI (tVar 1) (tC (.int (5)))) (tC (.int (0))))) (tTest (tOp rEq (tVar 4) (tCB (rLenV K) (tCons (tVar 0) (tNil)))))) (tRet (tOp rCat (tOp rCat (tSl (rSlL K) (tVar 0) (tNoPart) (tPart (tVar 4))) (tLst (tCons (tTup (tCons (tVar 6) (tCons (tVar 5) (tNil)))) (tNil)))) (tSl (rSlL K) (tVar 0) (tPart (tVar 4)) (tNoPart)))) (tNext)) (tSeq (tIfS (tTest (tOp rEq (tOp rModI (tVar 1) (tC (.int (5)))) (tC (.int (1))))) (tRet (tOp rCat (tOp rCat (tSl (rSlL K) (tVar 0) (tNoPart) (tPart (tVar 4))) (tLst (tCons (tTup (tCons (tOp (rIxT K) (tOp (rIxL K) (tVar 0) (tVar 4)) (tC (.int (0)))) (tCons (tVar 5) (tNil)))) (tNil)))) (tSl (rSlL K) (tVar 0) (tPart (tOp rAddI (tVar 4) (tC (.int (1))))) (tNoPart)))) (tNext)) (tSeq (tIfS (tTest (tOp rEq (tOp rModI (tVar 1) (tC (.int (5)))) (tC (.int (2))))) (tRet (tOp rCat (tOp rCat (tSl (rSlL K) (tVar 0) (tNoPart) (tPart (tVar 4))) (tLst (tCons (tTup (tCons (tVar 6) (tCons (tOp (rIxT K) (tOp (rIxL K) (tVar 0) (tVar 4)) (tC (.int (1)))) (tNil)))) (tNil)))) (tSl (rSlL K) (tVar 0) (tPart (tOp rAddI (tVar 4) (tC (.int (1))))) (tNoPart)))) (tNext)) (tSeq (tIfS (tTest (tOp rEq (tOp rModI (tVar 1) (tC (.int (5)))) (tC (.int (3))))) (tRet (tOp rCat (tSl (rSlL K) (tVar 0) (tNoPart) (tPart (tVar 4))) (tSl (rSlL K) (tVar 0) (tPart (tOp rAddI (tVar 4) (tC (.int (1))))) (tNoPart)))) (tNext)) (tRet (tOp rCat (tOp rCat (tSl (rSlL K) (tVar 0) (tNoPart) (tPart (tVar 4))) (tLst (tCons (tOp (rIxL K) (tVar 0) (tVar 4)) (tNil)))) (tSl (rSlL K) (tVar 0) (tPart (tVar 4)) (tNoPart))))))))))
theorem pure__law_spoiled {K : PySem.W.Frag} {vs : List V} {H : Hp} {Q : VK} {E : XK}  (hsp : sp__law_spoiled K vs H Q E) : t__law_spoiled K (endsOf Q) (start ["_law_told", "_law_cell", "_law_size", "_law_way", "_law_at", "_law_page_here", "_law_sheet"] vs) H := by
  obtain ⟨pre, F, R, a_told0, b_told0, l_told0, cell0, size0, way0, rfl, rfl, rd_told0, h⟩ := hsp.use
  unfold m__law_spoiled at h
  unfold t__law_spoiled
  with_reducible refine go_seq ?_
  with_reducible refine go_asg ?_
  refine go_op <| go_op <| go_var rfl <| go_c <| go_I ⟨by decide, by decide⟩ <| go_op <| go_CB <| go_cons <| go_var rfl <| go_nil <| st_len R (HasL.of .here rd_told0) <| go_c <| go_I0 <| st_mod h fun x1 h => ?_
  refine go_name <| ?_
  with_reducible refine go_seq ?_
  with_reducible refine go_asg ?_
  refine go_call <| go_cons <| go_op <| go_var rfl <| go_c <| go_I ⟨by decide, by decide⟩ <| go_cons <| go_var rfl <| go_nil <| SpS.call R .nil ⟨(cell0 / (97 : Int)), size0, rfl, rfl, Out.use h fun r2 h H R => ?_⟩
  refine go_name <| ?_
  with_reducible refine go_seq ?_
  with_reducible refine go_asg ?_
  refine go_call <| go_cons <| go_op <| go_call <| go_cons <| go_var rfl <| go_cons <| go_c <| go_nil <| SpS.call R .nil ⟨cell0, (3 : Int), rfl, rfl, Out.use h fun r3 h H R => ?_⟩
  refine go_c <| go_I (by decide) <| go_cons <| go_var rfl <| go_nil <| SpS.call R .nil ⟨(r3 % (6 : Int)), way0, rfl, rfl, Out.use h fun r4 h H R => ?_⟩
  refine go_name <| ?_
  with_reducible refine go_seq ?_
  with_reducible refine go_ifS ?_
  refine gn_or <| go_test <| go_op <| go_op <| go_var rfl <| go_c <| go_I (by decide) <| go_c <| st_eqI <| go_bl <| st_orP (d := (decide (x1 = (l_told0.length : Int)))) ?_ fun hq => ?_
  rotate_left
  · refine go_test <| go_op <| go_var rfl <| go_CB <| go_cons <| go_var rfl <| go_nil <| st_len R (HasL.of .here rd_told0) <| st_eqI <| go_bl <| hq
  refine st_ite h (fun hc h => ?_) (fun hc h => ?_)
  · with_reducible refine go_ret ?_
    refine go_op <| go_op <| go_slice <| go_var rfl <| go_slAt <| go_noPart <| go_part <| go_var rfl <| go_partAt <| st_cut R (HasL.of .here rd_told0) fun a5 H R => ?_
    refine go_lst <| go_cons <| go_tup <| go_cons <| go_var rfl <| go_cons <| go_var rfl <| go_nil <| st_mk2 (x := r4) (y := r2) R rfl rfl fun a6 H R => ?_
    refine go_nil <| st_new (xs := ([(T2.mk r4 r2)] : (List (T2 Int Int)))) R (.cons (R.atC .here) .nil) (by show 1 ≤ 1000; decide) fun a7 H R => ?_
    refine st_cat R (MutL.of (.there (.there (.here)))) (MutL.of .here) h fun x8 a9 H R h => ?_
    refine go_slice <| go_var rfl <| go_slAt <| go_part <| go_var rfl <| go_partAt <| go_noPart <| st_cut R (HasL.of (.there (.there (.there (.there (.here))))) rd_told0) fun a10 H R => ?_
    refine st_cat R (MutL.of (.there (.here))) (MutL.of .here) h fun x11 a12 H R h => ?_
    exact h _ _ (R.fin (cs := [_, _]) (.cons .here (.cons (.there (.there (.there (.there (.there (.here)))))) .nil)) (.skip (.skip (.skip (.skip (.skip (.refl)))))))
  · with_reducible refine go_next ?_
    with_reducible refine go_seq ?_
    with_reducible refine go_ifS ?_
    refine go_test <| go_op <| go_op <| go_var rfl <| go_c <| go_I (by decide) <| go_c <| st_eqI <| go_bl <| st_ite h (fun hc h => ?_) (fun hc h => ?_)
    · with_reducible refine go_ret ?_
      refine go_op <| go_op <| go_slice <| go_var rfl <| go_slAt <| go_noPart <| go_part <| go_var rfl <| go_partAt <| st_cut R (HasL.of .here rd_told0) fun a13 H R => ?_
      refine go_lst <| go_cons <| go_tup <| go_cons <| go_op <| go_op <| go_var rfl <| go_var rfl <| st_ixF R (HasL.of (.there (.here)) rd_told0) h fun x14 v15 R h => ?_
      refine go_c <| st_2a R .here fun w16 hw => ?_
      obtain rfl : w16 = .int x14.a := hw
      refine go_cons <| go_var rfl <| go_nil <| st_mk2 (x := x14.a) (y := r2) R rfl rfl fun a17 H R => ?_
      refine go_nil <| st_new (xs := ([(T2.mk x14.a r2)] : (List (T2 Int Int)))) R (.cons (R.atC .here) .nil) (by show 1 ≤ 1000; decide) fun a18 H R => ?_
      refine st_cat R (MutL.of (.there (.there (.there (.here))))) (MutL.of .here) h fun x19 a20 H R h => ?_
      refine go_slice <| go_var rfl <| go_slAt <| go_part <| go_op <| go_var rfl <| go_c <| go_I0 <| go_partAt <| go_noPart <| st_cut R (HasL.of (.there (.there (.there (.there (.there (.here)))))) rd_told0) fun a21 H R => ?_
      refine st_cat R (MutL.of (.there (.here))) (MutL.of .here) h fun x22 a23 H R h => ?_
      exact h _ _ (R.fin (cs := [_, _]) (.cons .here (.cons (.there (.there (.there (.there (.there (.there (.here))))))) .nil)) (.skip (.skip (.skip (.skip (.skip (.skip (.refl))))))))
    · with_reducible refine go_next ?_
      with_reducible refine go_seq ?_
      with_reducible refine go_ifS ?_
      refine go_test <| go_op <| go_op <| go_var rfl <| go_c <| go_I (by decide) <| go_c <| st_eqI <| go_bl <| st_ite h (fun hc h => ?_) (fun hc h => ?_)
      · with_reducible refine go_ret ?_
        refine go_op <| go_op <| go_slice <| go_var rfl <| go_slAt <| go_noPart <| go_part <| go_var rfl <| go_partAt <| st_cut R (HasL.of .here rd_told0) fun a24 H R => ?_
        refine go_lst <| go_cons <| go_tup <| go_cons <| go_var rfl <| go_cons <| go_op <| go_op <| go_var rfl <| go_var rfl <| st_ixF R (HasL.of (.there (.here)) rd_told0) h fun x25 v26 R h => ?_
        refine go_c <| st_2b R .here fun w27 hw => ?_
        obtain rfl : w27 = .int x25.b := hw
        refine go_nil <| st_mk2 (x := r4) (y := x25.b) R rfl rfl fun a28 H R => ?_
        refine go_nil <| st_new (xs := ([(T2.mk r4 x25.b)] : (List (T2 Int Int)))) R (.cons (R.atC .here) .nil) (by show 1 ≤ 1000; decide) fun a29 H R => ?_
        refine st_cat R (MutL.of (.there (.there (.there (.here))))) (MutL.of .here) h fun x30 a31 H R h => ?_
        refine go_slice <| go_var rfl <| go_slAt <| go_part <| go_op <| go_var rfl <| go_c <| go_I0 <| go_partAt <| go_noPart <| st_cut R (HasL.of (.there (.there (.there (.there (.there (.here)))))) rd_told0) fun a32 H R => ?_
        refine st_cat R (MutL.of (.there (.here))) (MutL.of .here) h fun x33 a34 H R h => ?_
        exact h _ _ (R.fin (cs := [_, _]) (.cons .here (.cons (.there (.there (.there (.there (.there (.there (.here))))))) .nil)) (.skip (.skip (.skip (.skip (.skip (.skip (.refl))))))))
      · with_reducible refine go_next ?_
        with_reducible refine go_seq ?_
        with_reducible refine go_ifS ?_
        refine go_test <| go_op <| go_op <| go_var rfl <| go_c <| go_I (by decide) <| go_c <| st_eqI <| go_bl <| st_ite h (fun hc h => ?_) (fun hc h => ?_)
        · with_reducible refine go_ret ?_
          refine go_op <| go_slice <| go_var rfl <| go_slAt <| go_noPart <| go_part <| go_var rfl <| go_partAt <| st_cut R (HasL.of .here rd_told0) fun a35 H R => ?_
          refine go_slice <| go_var rfl <| go_slAt <| go_part <| go_op <| go_var rfl <| go_c <| go_I0 <| go_partAt <| go_noPart <| st_cut R (HasL.of (.there (.here)) rd_told0) fun a36 H R => ?_
          refine st_cat R (MutL.of (.there (.here))) (MutL.of .here) h fun x37 a38 H R h => ?_
          exact h _ _ (R.fin (cs := [_, _]) (.cons .here (.cons (.there (.there (.here))) .nil)) (.skip (.skip (.refl))))
        · with_reducible refine go_next ?_
          with_reducible refine go_ret ?_
          refine go_op <| go_op <| go_slice <| go_var rfl <| go_slAt <| go_noPart <| go_part <| go_var rfl <| go_partAt <| st_cut R (HasL.of .here rd_told0) fun a39 H R => ?_
          refine go_lst <| go_cons <| go_op <| go_var rfl <| go_var rfl <| st_ixF R (HasL.of (.there (.here)) rd_told0) h fun x40 v41 R h => ?_
          refine go_nil <| st_new (xs := ([x40] : (List (T2 Int Int)))) R (.cons (R.atC .here) .nil) (by show 1 ≤ 1000; decide) fun a42 H R => ?_
          refine st_cat R (MutL.of (.there (.there (.here)))) (MutL.of .here) h fun x43 a44 H R h => ?_
          refine go_slice <| go_var rfl <| go_slAt <| go_part <| go_var rfl <| go_partAt <| go_noPart <| st_cut R (HasL.of (.there (.there (.there (.there (.here))))) rd_told0) fun a45 H R => ?_
          refine st_cat R (MutL.of (.there (.here))) (MutL.of .here) h fun x46 a47 H R h => ?_
          exact h _ _ (R.fin (cs := [_, _]) (.cons .here (.cons (.there (.there (.there (.there (.there (.here)))))) .nil)) (.skip (.skip (.skip (.skip (.skip (.refl)))))))
def m__law_sort (m_chip0 : ChipM) (size0 : Int) (d_found_here0 : (List (Int × (T2 Int Int)))) (sheet0 : Int) (page_here0 : Int) : Res Empty (Str) := (orR ((!(((decide ((0 : Int) ≤ page_here0)) && (decide (page_here0 < size0)))))) ((m_Chip_read m_chip0 page_here0).bind fun r1 => .ok ((r1.isNone)))).then_ fun b3 => cond b3 ( .ok ("nothing" : Str)) ((m_Chip_read m_chip0 page_here0).bind fun r4 => (Res.ofO r4).bind fun y6 => cond ((!decide ((Builtin.bitAnd y6.a ((127 : Int))) = sheet0))) ( .ok ("other" : Str)) ( cond ((!(dLook d_found_here0 sheet0).isSome)) ( .ok ("gone" : Str)) ((getD_ d_found_here0 sheet0).bind fun x8 => cond ((!decide (x8.a = page_here0))) ( .ok ("old" : Str)) ( .ok ("" : Str)))))
def sp__law_sort (K : PySem.W.Frag) : Sp := SpS fun vs pre k => ∃ (p_chip0 : Addr) (x_chip0 : ChipX) (m_chip0 : ChipM) (size0 : Int) (a_found_here0 : Addr) (d_found_here0 : (List (Int × (T2 Int Int)))) (sheet0 : Int) (page_here0 : Int), vs = [.ref p_chip0, .int size0, .ref a_found_here0, .int sheet0, .int page_here0] ∧ pre = [chipO K p_chip0 m_chip0 x_chip0, (a_found_here0, dcF (d_found_here0 : (List (Int × (T2 Int Int)))))] ∧ Out (m__law_sort m_chip0 size0 d_found_here0 sheet0 page_here0) (fun r => k (.str r) [chipO K p_chip0 m_chip0 x_chip0, (a_found_here0, dcF (d_found_here0 : (List (Int × (T2 Int Int)))))]) (fun _ => False)
def t__law_sort (K : PySem.W.Frag) : TS := tSeq (tIfS (tOr (tNot (tChainT rLeI rLtI (tC (.int (0))) (tVar 4) (tVar 1))) (tTest (tOp rIsN (tMeth (He.ga K "Chip") "read" (sp_Chip_read K) [] E0 (tVar 0) (tCons (tVar 4) (tNil))) (tC .non)))) (tRet (tC (.str "nothing"))) (tNext)) (tSeq (tIfS (tTest (tOp rNe (tOp rAndI (tOp (rIxT K) (tMeth (He.ga K "Chip") "read" (sp_Chip_read K) [] E0 (tVar 0) (tCons (tVar 4) (tNil))) (tC (.int (0)))) (tC (.int (127)))) (tVar 3))) (tRet (tC (.str "other"))) (tNext)) (tSeq (tIfS (tB (tDNotIn (tVar 3) (tVar 2))) (tRet (tC (.str "gone"))) (tNext)) (tSeq (tIfS (tTest (tOp rNe (tOp (rIxT K) (tDGet (tVar 2) (tVar 3)) (tC (.int (0)))) (tVar 4))) (tRet (tC (.str "old"))) (tNext)) (tRet (tC (.str ""))))))
theorem pure__law_sort {K : PySem.W.Frag} {vs : List V} {H : Hp} {Q : VK} {E : XK}  (hsp : sp__law_sort K vs H Q E) : t__law_sort K (endsOf Q) (start ["_law_chip", "_law_size", "_law_found_here", "_law_sheet", "_law_page_here"] vs) H := by
  obtain ⟨pre, F, R, p_chip0, x_chip0, m_chip0, size0, a_found_here0, d_found_here0, sheet0, page_here0, rfl, rfl, h⟩ := hsp.use
  unfold m__law_sort at h
  unfold t__law_sort
  with_reducible refine go_seq ?_
  with_reducible refine go_ifS ?_
  refine gn_or <| go_not <| gn_chainT <| gn_chain <| go_c <| go_var rfl <| go_I0 <| st_chP (d := decide (page_here0 < size0)) ?_ fun hq => ?_
  rotate_left
  · refine go_var rfl <| go_I0 <| hq
  refine go_bl <| st_orC R h (fun b3 H R h => ?_) (fun k h => ?_)
  rotate_left
  · refine go_test <| go_op <| go_meth <| go_var rfl <| methChip (fun _ _ _ _ _ _ _ _ _ _ => by kernel_rfl) R .here <| go_cons <| go_var rfl <| go_nil <| SpS.call R (.cons .here .nil) ⟨_, _, _, page_here0, rfl, rfl, Out.use h fun r1 h v2 H R => ?_⟩
    refine go_c <| st_isN R .here (fun x h => fr_nn2 h rfl) <| go_bl <| ?_
    exact k _ _ (R.fin (cs := [_, _]) (.cons (.there (.here)) (.cons (.there (.here)) .nil)) (.skip (.refl))) h
  refine st_ite h (fun hc h => ?_) (fun hc h => ?_)
  · with_reducible refine go_ret ?_
    refine go_c <| ?_
    exact h _ (R.fin (cs := [_, _]) (.cons .here (.cons .here .nil)) .refl)
  · with_reducible refine go_next ?_
    with_reducible refine go_seq ?_
    with_reducible refine go_ifS ?_
    refine go_test <| go_op <| go_op <| go_op <| go_meth <| go_var rfl <| methChip (fun _ _ _ _ _ _ _ _ _ _ => by kernel_rfl) R .here <| go_cons <| go_var rfl <| go_nil <| SpS.call R (.cons .here .nil) ⟨_, _, _, page_here0, rfl, rfl, Out.use h fun r4 h v5 H R => ?_⟩
    refine go_c <| ?_
    obtain ⟨y6, ho, h⟩ := Out.o h
    rw [ho] at R
    replace R := R.some .here
    refine st_2a R .here fun w7 hw => ?_
    obtain rfl : w7 = .int y6.a := hw
    refine go_c <| go_I0 <| go_var rfl <| st_neI <| go_bl <| st_ite h (fun hc h => ?_) (fun hc h => ?_)
    · with_reducible refine go_ret ?_
      refine go_c <| ?_
      exact h _ (R.fin (cs := [_, _]) (.cons (.there (.here)) (.cons (.there (.here)) .nil)) (.skip (.refl)))
    · with_reducible refine go_next ?_
      with_reducible refine go_seq ?_
      with_reducible refine go_ifS ?_
      refine go_B <| go_dnotin <| go_var rfl <| go_var rfl <| st_dnotin R (MutD.of (.there (.there (.here)))).has rfl <| go_bl <| st_ite h (fun hc h => ?_) (fun hc h => ?_)
      · with_reducible refine go_ret ?_
        refine go_c <| ?_
        exact h _ (R.fin (cs := [_, _]) (.cons (.there (.here)) (.cons (.there (.here)) .nil)) (.skip (.refl)))
      · with_reducible refine go_next ?_
        with_reducible refine go_seq ?_
        with_reducible refine go_ifS ?_
        refine go_test <| go_op <| go_op <| go_dget <| go_var rfl <| go_var rfl <| st_dgetF R (MutD.of (.there (.there (.here)))).has rfl h fun x8 v9 R h => ?_
        refine go_c <| st_2a R .here fun w10 hw => ?_
        obtain rfl : w10 = .int x8.a := hw
        refine go_var rfl <| st_neI <| go_bl <| st_ite h (fun hc h => ?_) (fun hc h => ?_)
        · with_reducible refine go_ret ?_
          refine go_c <| ?_
          exact h _ (R.fin (cs := [_, _]) (.cons (.there (.there (.here))) (.cons (.there (.there (.here))) .nil)) (.skip (.skip (.refl))))
        · with_reducible refine go_next ?_
          with_reducible refine go_ret ?_
          refine go_c <| ?_
          exact h _ (R.fin (cs := [_, _]) (.cons (.there (.there (.here))) (.cons (.there (.there (.here))) .nil)) (.skip (.skip (.refl))))
def m__law_due (m_chip0 : ChipM) (size0 : Int) (d_found_here0 : (List (Int × (T2 Int Int)))) (l_told0 : (List (T2 Int Int))) : Res Empty ((List (T3 Int Int Str))) :=    (foldR (fun (s3 : (List (Int × Int)) × (List (T3 Int Int Str))) (x7 : (T2 Int Int)) => ((m__law_sort m_chip0 size0 d_found_here0 x7.a x7.b).bind fun r11 =>  (cond ((dLook s3.1 x7.a).isSome) (  .ok ("twice" : Str)) ( .ok r11) : Res Empty (Str)).then_ fun s12 =>  (cond ((!decide (s12 = ("" : Str)))) ((appL s3.2 ((T3.mk x7.a x7.b s12))).bind fun x16 =>  .ok x16) ( .ok s3.2) : Res Empty ((List (T3 Int Int Str)))).then_ fun s13 => (putD_ s3.1 x7.a x7.b).bind fun x14 =>  .ok (x14, s13) : Res Empty _)) (([] : (List (Int × Int))), ([] : (List (T3 Int Int Str)))) l_told0).then_ fun s3 => (sortD_ d_found_here0).bind fun x17 => (foldR (fun (s19 : (List (T3 Int Int Str))) (x23 : Int) => ( cond ((!(dLook s3.1 x23).isSome)) ((getD_ d_found_here0 x23).bind fun x25 => (appL s19 ((T3.mk x23 x25.a (("missing" : Str))))).bind fun x29 =>  .ok x29) ( .ok s19) : Res Empty _)) s3.2 x17).then_ fun s19 =>  .ok s19
def sp__law_due (K : PySem.W.Frag) : Sp := SpS fun vs pre k => ∃ (p_chip0 : Addr) (x_chip0 : ChipX) (m_chip0 : ChipM) (size0 : Int) (a_found_here0 : Addr) (d_found_here0 : (List (Int × (T2 Int Int)))) (a_told0 : Addr) (b_told0 : BO) (l_told0 : (List (T2 Int Int))), vs = [.ref p_chip0, .int size0, .ref a_found_here0, .ref a_told0] ∧ pre = [chipO K p_chip0 m_chip0 x_chip0, (a_found_here0, dcF (d_found_here0 : (List (Int × (T2 Int Int))))), (a_told0, b_told0)] ∧ RdL K b_told0 l_told0 ∧ Out (m__law_due m_chip0 size0 d_found_here0 l_told0) (fun r => ∀ z1 : Addr, k (.ref z1) [(z1, lsF (r : (List (T3 Int Int Str)))), chipO K p_chip0 m_chip0 x_chip0, (a_found_here0, dcF (d_found_here0 : (List (Int × (T2 Int Int))))), (a_told0, b_told0)]) (fun _ => False)
def t__law_due (K : PySem.W.Frag) : TS := tSeq (tAsg (tLst (tNil)) (gName 4)) (tSeq (tAsg (tDNewK) (gName 5)) (tSeq (tFor (iList K (tVar 3)) (gTup K 2 (gCons (gName 6) (gCons (gName 7) (gNil)))) (tSeq (tAsg (tCall (sp__law_sort K) [] E0 (tCons (tVar 0) (tCons (tVar 1) (tCons (tVar 2) (tCons (tVar 6) (tCons (tVar 7) (tNil))))))) (gName 8)) (tSeq (tIfS (tB (tDIn (tVar 6) (tVar 5))) (tAsg (tC (.str "twice")) (gName 8)) (tNext)) (tSeq (tIfS (tTest (tOp rNe (tVar 8) (tC (.str "")))) (tDrop (tBM K "list" rAppend (tVar 4) (tCons (tTup (tCons (tVar 6) (tCons (tVar 7) (tCons (tVar 8) (tNil))))) (tNil)))) (tNext)) (sDPut (tVar 5) (tVar 6) (tVar 7)))))) (tSeq (tFor (iList K (tCB rSortedDI (tCons (tVar 2) (tNil)))) (gName 6) (tIfS (tB (tDNotIn (tVar 6) (tVar 5))) (tDrop (tBM K "list" rAppend (tVar 4) (tCons (tTup (tCons (tVar 6) (tCons (tOp (rIxT K) (tDGet (tVar 2) (tVar 6)) (tC (.int (0)))) (tCons (tC (.str "missing")) (tNil))))) (tNil)))) (tNext))) (tRet (tVar 4)))))
theorem pure__law_due {K : PySem.W.Frag} {vs : List V} {H : Hp} {Q : VK} {E : XK}  (hsp : sp__law_due K vs H Q E) : t__law_due K (endsOf Q) (start ["_law_chip", "_law_size", "_law_found_here", "_law_told", "_law_rows", "_law_known", "_law_sheet", "_law_page_here", "_law_sort_here"] vs) H := by
  obtain ⟨pre, F, R, p_chip0, x_chip0, m_chip0, size0, a_found_here0, d_found_here0, a_told0, b_told0, l_told0, rfl, rfl, rd_told0, h⟩ := hsp.use
  unfold m__law_due at h
  unfold t__law_due
  with_reducible refine go_seq ?_
  with_reducible refine go_asg ?_
  refine go_lst <| go_nil <| st_new (xs := ([] : (List (T3 Int Int Str)))) R .nil (by show 0 ≤ 1000; decide) fun a1 H R => ?_
  refine go_name <| ?_
  with_reducible refine go_seq ?_
  with_reducible refine go_asg ?_
  refine st_dnew (κ := Int) (α := Int) R fun a2 H R => ?_
  refine go_name <| ?_
  with_reducible refine go_seq ?_
  with_reducible refine go_for ?_
  refine go_iList <| go_var rfl <| st_iList R (HasL.of (.there (.there (.there (.there (.here))))) rd_told0) <| st_for (S := (List (Int × Int)) × (List (T3 Int Int Str))) wk_has (fun s3 σ L => ∃ (u4 : Option V) (u5 : Option V) (u6 : Option V), σ = [some (.ref p_chip0), some (.int size0), some (.ref a_found_here0), some (.ref a_told0), some (.ref a1), some (.ref a2), u4, u5, u6] ∧ L = (a2, dcF (s3.1 : (List (Int × Int)))) :: (a1, lsF (s3.2 : (List (T3 Int Int Str)))) :: chipO K p_chip0 m_chip0 x_chip0 :: (a_found_here0, dcF (d_found_here0 : (List (Int × (T2 Int Int))))) :: (a_told0, b_told0) :: F) (R.fin (cs := [_, _, _, _, _]) (.cons .here (.cons .here (.cons .here (.cons .here (.cons .here .nil))))) .refl) h ⟨_, _, _, rfl, rfl⟩ (fun s σ L p => by obtain ⟨u4, u5, u6, rfl, rfl⟩ := p; exact (HasL.of (.there (.there (.there (.there (.here))))) rd_told0)) (fun s3 x7 v8 cs σ H L ys p hy R h => ?_) (fun s3 σ H L R p h => ?_)
  · obtain ⟨u4, u5, u6, rfl, rfl⟩ := p
    obtain rfl := hy
    refine st_un2 R .here fun w9 w10 hw9 hw10 => ?_
    obtain rfl : w9 = .int x7.a := hw9
    obtain rfl : w10 = .int x7.b := hw10
    refine go_gcons <| go_name <| go_gcons <| go_name <| go_gnil <| ?_
    with_reducible refine go_seq ?_
    with_reducible refine go_asg ?_
    refine go_call <| go_cons <| go_var rfl <| go_cons <| go_var rfl <| go_cons <| go_var rfl <| go_cons <| go_var rfl <| go_cons <| go_var rfl <| go_nil <| SpS.call R (.cons (.there (.there (.there (.here)))) (.cons (.there (.there (.there (.here)))) .nil)) ⟨_, _, _, size0, _, _, x7.a, x7.b, rfl, rfl, Out.use h fun r11 h H R => ?_⟩
    refine go_name <| ?_
    with_reducible refine go_seq ?_
    with_reducible refine go_ifS ?_
    refine go_B <| go_din <| go_var rfl <| go_var rfl <| st_din R (MutD.of (.there (.there (.there (.here))))).has rfl <| go_bl <| st_join (α := Str) (fun s12 σ L => σ = [some (.ref p_chip0), some (.int size0), some (.ref a_found_here0), some (.ref a_told0), some (.ref a1), some (.ref a2), some (.int x7.a), some (.int x7.b), some (.str s12)] ∧ L = chipO K p_chip0 m_chip0 x_chip0 :: (a_found_here0, dcF (d_found_here0 : (List (Int × (T2 Int Int))))) :: (a2, dcF (s3.1 : (List (Int × Int)))) :: (a1, lsF (s3.2 : (List (T3 Int Int Str)))) :: (a_told0, b_told0) :: F) h (fun s12 σ H L R p h => ?_) (fun J hc h => ?_) (fun J hc h => ?_)
    · obtain ⟨rfl, rfl⟩ := p
      with_reducible refine go_seq ?_
      with_reducible refine go_ifS ?_
      refine go_test <| go_op <| go_var rfl <| go_c <| st_neS <| go_bl <| st_join (α := (List (T3 Int Int Str))) (fun s13 σ L => σ = [some (.ref p_chip0), some (.int size0), some (.ref a_found_here0), some (.ref a_told0), some (.ref a1), some (.ref a2), some (.int x7.a), some (.int x7.b), some (.str s12)] ∧ L = chipO K p_chip0 m_chip0 x_chip0 :: (a_found_here0, dcF (d_found_here0 : (List (Int × (T2 Int Int))))) :: (a2, dcF (s3.1 : (List (Int × Int)))) :: (a1, lsF (s13 : (List (T3 Int Int Str)))) :: (a_told0, b_told0) :: F) h (fun s13 σ H L R p h => ?_) (fun J hc h => ?_) (fun J hc h => ?_)
      · obtain ⟨rfl, rfl⟩ := p
        with_reducible refine go_dput ?_
        refine go_var rfl <| go_cf <| go_var rfl <| go_var rfl <| st_dput (x := x7.b) R (MutD.of (.there (.there (.here)))) rfl rfl h fun x14 H R h => ?_
        with_reducible refine go_loop ?_
        exact loop_end (cs := [_, _, _, _, _]) (x14, s13) h ⟨_, _, _, rfl, rfl⟩ R (.cons .here (.cons (.there (.there (.here))) (.cons .here (.cons .here (.cons .here .nil))))) .refl
      · with_reducible refine go_drop ?_
        refine go_bm <| go_var rfl <| st_bmL R (HasL.of (.there (.there (.there (.here)))) RdL.ls) <| go_cons <| go_tup <| go_cons <| go_var rfl <| go_cons <| go_var rfl <| go_cons <| go_var rfl <| go_nil <| st_mk3 (x := x7.a) (y := x7.b) (z := s12) R rfl rfl rfl fun a15 H R => ?_
        refine go_nil <| st_app (x := (T3.mk x7.a x7.b s12)) R (MutL.of (.there (.there (.there (.there (.here)))))) (R.atC .here) h fun x16 H R h => ?_
        exact J x16 _ _ _ (R.fin (cs := [_, _, _, _, _]) (.cons (.there (.there (.here))) (.cons (.there (.there (.here))) (.cons (.there (.there (.here))) (.cons .here (.cons (.there (.here)) .nil))))) (.skip (.refl))) ⟨rfl, rfl⟩ h
      · with_reducible refine go_next ?_
        exact J s3.2 _ _ _ (R.fin (cs := [_, _, _, _, _]) (.cons .here (.cons .here (.cons .here (.cons .here (.cons .here .nil))))) .refl) ⟨rfl, rfl⟩ h
    · with_reducible refine go_asg ?_
      refine go_c <| go_name <| ?_
      exact J ("twice" : Str) _ _ _ (R.fin (cs := [_, _, _, _, _]) (.cons .here (.cons .here (.cons (.there (.here)) (.cons (.there (.here)) (.cons (.there (.here)) .nil))))) (.skip (.refl))) ⟨rfl, rfl⟩ h
    · with_reducible refine go_next ?_
      exact J r11 _ _ _ (R.fin (cs := [_, _, _, _, _]) (.cons .here (.cons .here (.cons (.there (.here)) (.cons (.there (.here)) (.cons (.there (.here)) .nil))))) (.skip (.refl))) ⟨rfl, rfl⟩ h
  · obtain ⟨u4, u5, u6, rfl, rfl⟩ := p
    with_reducible refine go_seq ?_
    with_reducible refine go_for ?_
    refine go_iList <| go_CB <| go_cons <| go_var rfl <| go_nil <| st_sortD R (MutD.of (.there (.there (.there (.here))))).has h fun x17 a18 H R h => ?_
    refine st_iList R (HasL.of .here RdL.ls) <| st_for (S := (List (T3 Int Int Str))) wk_sc (fun s19 σ L => ∃ (u20 : Option V) (u21 : Option V) (u22 : Option V), σ = [some (.ref p_chip0), some (.int size0), some (.ref a_found_here0), some (.ref a_told0), some (.ref a1), some (.ref a2), u20, u21, u22] ∧ L = (a18, lsF (x17 : (List Int))) :: (a2, dcF (s3.1 : (List (Int × Int)))) :: (a1, lsF (s19 : (List (T3 Int Int Str)))) :: chipO K p_chip0 m_chip0 x_chip0 :: (a_found_here0, dcF (d_found_here0 : (List (Int × (T2 Int Int))))) :: (a_told0, b_told0) :: F) (R.fin (cs := [_, _, _, _, _, _]) (.cons .here (.cons .here (.cons .here (.cons .here (.cons .here (.cons .here .nil)))))) .refl) h ⟨_, _, _, rfl, rfl⟩ (fun s σ L p => by obtain ⟨u20, u21, u22, rfl, rfl⟩ := p; exact (HasL.of .here RdL.ls)) (fun s19 x23 v24 cs σ H L ys p hy R h => ?_) (fun s19 σ H L R p h => ?_)
    · obtain ⟨u20, u21, u22, rfl, rfl⟩ := p
      obtain ⟨rfl, rfl⟩ := hy
      refine go_name <| ?_
      with_reducible refine go_ifS ?_
      refine go_B <| go_dnotin <| go_var rfl <| go_var rfl <| st_dnotin R (MutD.of (.there (.here))).has rfl <| go_bl <| st_ite h (fun hc h => ?_) (fun hc h => ?_)
      · with_reducible refine go_drop ?_
        refine go_bm <| go_var rfl <| st_bmL R (HasL.of (.there (.there (.here))) RdL.ls) <| go_cons <| go_tup <| go_cons <| go_var rfl <| go_cons <| go_op <| go_dget <| go_var rfl <| go_var rfl <| st_dgetF R (MutD.of (.there (.there (.there (.there (.here)))))).has rfl h fun x25 v26 R h => ?_
        refine go_c <| st_2a R .here fun w27 hw => ?_
        obtain rfl : w27 = .int x25.a := hw
        refine go_cons <| go_c <| go_nil <| st_mk3 (x := x23) (y := x25.a) (z := ("missing" : Str)) R rfl rfl rfl fun a28 H R => ?_
        refine go_nil <| st_app (x := (T3.mk x23 x25.a (("missing" : Str)))) R (MutL.of (.there (.there (.there (.there (.here)))))) (R.atC .here) h fun x29 H R h => ?_
        with_reducible refine go_loop ?_
        exact loop_end (cs := [_, _, _, _, _, _]) x29 h ⟨_, _, _, rfl, rfl⟩ R (.cons (.there (.there (.there (.here)))) (.cons (.there (.there (.there (.here)))) (.cons .here (.cons (.there (.there (.here))) (.cons (.there (.there (.here))) (.cons (.there (.there (.here))) .nil)))))) (.skip (.skip (.refl)))
      · with_reducible refine go_next ?_
        with_reducible refine go_loop ?_
        exact loop_end (cs := [_, _, _, _, _, _]) s19 h ⟨_, _, _, rfl, rfl⟩ R (.cons .here (.cons .here (.cons .here (.cons .here (.cons .here (.cons .here .nil)))))) .refl
    · obtain ⟨u20, u21, u22, rfl, rfl⟩ := p
      with_reducible refine go_ret ?_
      refine go_var rfl <| ?_
      exact h _ _ (R.fin (cs := [_, _, _, _]) (.cons (.there (.there (.here))) (.cons (.there (.there (.here))) (.cons (.there (.there (.here))) (.cons (.there (.there (.here))) .nil)))) (.skip (.skip (.refl))))
def m_law (l_script0 : (List Int)) : Res Empty (Bool) := (m__law_cell_at l_script0 ((0 : Int))).bind fun r1 => (m__law_cell_at l_script0 ((1 : Int))).bind fun r2 => (m__law_cell_at l_script0 ((2 : Int))).bind fun r3 => (m_Chip___init__ (((4 : Int) + (r1 % (4 : Int)))) (((1 : Int) + (r2 % (4 : Int)))) ((1000000 : Int)) (())).bind fun r6 => (m__law_lay r6 l_script0 (((4 : Int) + (r1 % (4 : Int)))) (((1 : Int) + (r2 % (4 : Int)))) r3).bind fun r8 => (mulI (((4 : Int) + (r1 % (4 : Int)))) (((1 : Int) + (r2 % (4 : Int))))).bind fun x9 => (m__law_found r8 x9).bind fun r10 => (sortD_ r10).bind fun x12 => (lcR (fun x14 => (getD_ r10 x14).bind fun x19 => .ok (some ((T2.mk x14 x19.a)))) [] x12).then_ fun x24 => (m__law_cell_at l_script0 ((3 : Int))).bind fun r25 => (modI r25 (((x24.length : Int) + (1 : Int)))).bind fun x26 => (catL ((cutL x24 (some x26) none)) ((cutL x24 none (some x26)))).bind fun x29 => (m_faults r8 x29).bind fun r32 => (eqL r32 (([] : (List (T3 Int Int Str))))).bind fun x35 => cond ((!x35)) ( .ok false) ((rng2 ((4 : Int)) ((min2 ((l_script0.length : Int)) ((12 : Int))))).bind fun x36 => (forR (fun (s37 : (List (T2 Int Int))) (x43 : Int) => ((ixL l_script0 x43).bind fun x52 => (mulI (((4 : Int) + (r1 % (4 : Int)))) (((1 : Int) + (r2 % (4 : Int))))).bind fun x53 => (m__law_spoiled s37 ((x52 / (3 : Int))) x53 r3).bind fun r54 =>  (m_faults r8 r54).bind fun r57 => (orR ((!true)) ((mulI (((4 : Int) + (r1 % (4 : Int)))) (((1 : Int) + (r2 % (4 : Int))))).bind fun x59 => (m__law_due r8 x59 r10 r54).bind fun r60 => (eqL r57 r60).bind fun x62 => (orR ((!x62)) ((eqL r54 r54).bind fun x63 => .ok ((!x63)))).then_ fun b64 => .ok b64)).then_ fun b65 => cond b65 ( .ok (.rt false)) ( .ok (.nx r54)) : Res Empty (Ctl ((List (T2 Int Int))) (Bool)))) x29 x36).then_ fun c => ctl c (fun s37 => (m_faults r8 s37).bind fun r46 => (mulI (((4 : Int) + (r1 % (4 : Int)))) (((1 : Int) + (r2 % (4 : Int))))).bind fun x48 => (m__law_due r8 x48 r10 s37).bind fun r49 => (eqL r46 r49).bind fun x51 => .ok (x51)) (fun r => .ok r))
def sp_law (K : PySem.W.Frag) : Sp := SpS fun vs pre k => ∃ (a_script0 : Addr) (b_script0 : BO) (l_script0 : (List Int)), vs = [.ref a_script0] ∧ pre = [(a_script0, b_script0)] ∧ RdL K b_script0 l_script0 ∧ Out (m_law l_script0) (fun r => k (.bl r) [(a_script0, b_script0)]) (fun _ => False)
def t_law (K : PySem.W.Frag) : TS := tSeq (tAsg (tOp rAddI (tC (.int (4))) (tOp rModI (tCall (sp__law_cell_at K) [] E0 (tCons (tVar 0) (tCons (tC (.int (0))) (tNil)))) (tC (.int (4))))) (gName 1)) (tSeq (tAsg (tOp rAddI (tC (.int (1))) (tOp rModI (tCall (sp__law_cell_at K) [] E0 (tCons (tVar 0) (tCons (tC (.int (1))) (tNil)))) (tC (.int (4))))) (gName 2)) (tSeq (tAsg (tCall (sp__law_cell_at K) [] E0 (tCons (tVar 0) (tCons (tC (.int (2))) (tNil)))) (gName 3)) (tSeq (tAsg (tMake (He.ga K "Chip") (sp_Chip___init__ K) [.int 1000000, .non] E0 (tCons (tVar 1) (tCons (tVar 2) (tNil)))) (gName 4)) (tSeq (tDrop (tCall (sp__law_lay K) [] E0 (tCons (tVar 4) (tCons (tVar 0) (tCons (tVar 1) (tCons (tVar 2) (tCons (tVar 3) (tNil)))))))) (tSeq (tAsg (tCall (sp__law_found K) [] E0 (tCons (tVar 4) (tCons (tOp rMulI (tVar 1) (tVar 2)) (tNil)))) (gName 5)) (tSeq (tAsg (tLc (iList K (tCB rSortedDI (tCons (tVar 5) (tNil)))) (gName 11) (tYes) (tTup (tCons (tVar 11) (tCons (tOp (rIxT K) (tDGet (tVar 5) (tVar 11)) (tC (.int (0)))) (tNil)))) [11]) (gName 6)) (tSeq (tAsg (tOp rModI (tCall (sp__law_cell_at K) [] E0 (tCons (tVar 0) (tCons (tC (.int (3))) (tNil)))) (tOp rAddI (tCB (rLenV K) (tCons (tVar 6) (tNil))) (tC (.int (1))))) (gName 7)) (tSeq (tAsg (tOp rCat (tSl (rSlL K) (tVar 6) (tPart (tVar 7)) (tNoPart)) (tSl (rSlL K) (tVar 6) (tNoPart) (tPart (tVar 7)))) (gName 6)) (tSeq (tIfS (tTest (tOp (rNeD K) (tCall (sp_faults K) [] E0 (tCons (tVar 4) (tCons (tCB (rListOf K) (tCons (tVar 6) (tNil))) (tNil)))) (tLst (tNil)))) (tRet (tC (.bl false))) (tNext)) (tSeq (tFor (iRng2 (tCons (tC (.int (4))) (tCons (tCB rMin2 (tCons (tCB (rLenV K) (tCons (tVar 0) (tNil))) (tCons (tC (.int (12))) (tNil)))) (tNil)))) (gName 8) (tSeq (tAsg (tCall (sp__law_spoiled K) [] E0 (tCons (tVar 6) (tCons (tOp rDivI (tOp (rIxL K) (tVar 0) (tVar 8)) (tC (.int (3)))) (tCons (tOp rMulI (tVar 1) (tVar 2)) (tCons (tVar 3) (tNil)))))) (gName 6)) (tSeq (tAsg (tCB (rListOf K) (tCons (tVar 6) (tNil))) (gName 9)) (tSeq (tAsg (tCall (sp_faults K) [] E0 (tCons (tVar 4) (tCons (tVar 9) (tNil)))) (gName 10)) (tIfS (tOr (tNot (tB (tCB (rIsi K) (tCons (tVar 10) (tCons (tC (.ty "list")) (tNil)))))) (tOr (tTest (tOp (rNeD K) (tVar 10) (tCall (sp__law_due K) [] E0 (tCons (tVar 4) (tCons (tOp rMulI (tVar 1) (tVar 2)) (tCons (tVar 5) (tCons (tVar 6) (tNil)))))))) (tTest (tOp (rNeD K) (tVar 9) (tVar 6))))) (tRet (tC (.bl false))) (tNext)))))) (tRet (tOp (rEqD K) (tCall (sp_faults K) [] E0 (tCons (tVar 4) (tCons (tCB (rListOf K) (tCons (tVar 6) (tNil))) (tNil)))) (tCall (sp__law_due K) [] E0 (tCons (tVar 4) (tCons (tOp rMulI (tVar 1) (tVar 2)) (tCons (tVar 5) (tCons (tVar 6) (tNil))))))))))))))))))
theorem pure_law {K : PySem.W.Frag} {vs : List V} {H : Hp} {Q : VK} {E : XK}  (hsp : sp_law K vs H Q E) : t_law K (endsOf Q) (start ["_law_script", "_law_blocks", "_law_pages", "_law_way", "_law_chip", "_law_found_here", "_law_told", "_law_turn", "_law_k", "_law_handed", "_law_answer", "_law_sheet"] vs) H := by
  obtain ⟨pre, F, R, a_script0, b_script0, l_script0, rfl, rfl, rd_script0, h⟩ := hsp.use
  unfold m_law at h
  unfold t_law
  with_reducible refine go_seq ?_
  with_reducible refine go_asg ?_
  refine go_op <| go_c <| go_op <| go_call <| go_cons <| go_var rfl <| go_cons <| go_c <| go_nil <| SpS.call R (.cons .here .nil) ⟨_, _, l_script0, (0 : Int), rfl, rfl, rd_script0, Out.use h fun r1 h H R => ?_⟩
  refine go_c <| go_I (by decide) <| go_I0 <| go_name <| ?_
  with_reducible refine go_seq ?_
  with_reducible refine go_asg ?_
  refine go_op <| go_c <| go_op <| go_call <| go_cons <| go_var rfl <| go_cons <| go_c <| go_nil <| SpS.call R (.cons .here .nil) ⟨_, _, l_script0, (1 : Int), rfl, rfl, rd_script0, Out.use h fun r2 h H R => ?_⟩
  refine go_c <| go_I (by decide) <| go_I0 <| go_name <| ?_
  with_reducible refine go_seq ?_
  with_reducible refine go_asg ?_
  refine go_call <| go_cons <| go_var rfl <| go_cons <| go_c <| go_nil <| SpS.call R (.cons .here .nil) ⟨_, _, l_script0, (2 : Int), rfl, rfl, rd_script0, Out.use h fun r3 h H R => ?_⟩
  refine go_name <| ?_
  with_reducible refine go_seq ?_
  with_reducible refine go_asg ?_
  refine go_make <| go_cons <| go_var rfl <| go_cons <| go_var rfl <| go_nil <| make_at R fun p4 dx5 H R => ?_
  refine SpS.call R (.cons .here .nil) ⟨_, _, ((4 : Int) + (r1 % (4 : Int))), ((1 : Int) + (r2 % (4 : Int))), (1000000 : Int), (), rfl, rfl, Out.use h fun r6 h x7 H R => ⟨rfl, ?_⟩⟩
  refine go_name <| ?_
  with_reducible refine go_seq ?_
  with_reducible refine go_drop ?_
  refine go_call <| go_cons <| go_var rfl <| go_cons <| go_var rfl <| go_cons <| go_var rfl <| go_cons <| go_var rfl <| go_cons <| go_var rfl <| go_nil <| SpS.call R (.cons .here (.cons .here .nil)) ⟨_, _, _, _, _, l_script0, ((4 : Int) + (r1 % (4 : Int))), ((1 : Int) + (r2 % (4 : Int))), r3, rfl, rfl, rd_script0, Out.use h fun r8 h H R => ?_⟩
  with_reducible refine go_seq ?_
  with_reducible refine go_asg ?_
  refine go_call <| go_cons <| go_var rfl <| go_cons <| go_op <| go_var rfl <| go_var rfl <| st_mul h fun x9 h => ?_
  refine go_nil <| SpS.call R (.cons .here .nil) ⟨_, _, _, x9, rfl, rfl, Out.use h fun r10 h a11 H R => ?_⟩
  refine go_name <| ?_
  with_reducible refine go_seq ?_
  with_reducible refine go_asg ?_
  refine go_lc <| go_iList <| go_CB <| go_cons <| go_var rfl <| go_nil <| st_sortD R (MutD.of .here).has h fun x12 a13 H R h => ?_
  refine st_iList R (HasL.of .here RdL.ls) <| ?_
  replace R := R.fin (cs := [(a13, lsF (x12 : (List Int))), (a11, dcF (r10 : (List (Int × (T2 Int Int))))), chipO K p4 r8 x7, (a_script0, b_script0)]) (F := F) (.cons .here (.cons .here (.cons .here (.cons .here .nil)))) .refl
  refine st_lc (δ := (T2 Int Int)) wk_sc R h (fun c1 c2 => (HasL.of (.there (.there (.here))) RdL.ls)) (fun x14 v15 cs acc18 us17 d16 H ys hy R hl h => ?_) (fun a23 H x24 R h => ?_)
  · obtain ⟨rfl, rfl⟩ := hy
    refine go_name <| ⟨rfl, ?_⟩
    refine go_yes <| ite_t rfl <| go_tup <| go_cons <| go_var rfl <| go_cons <| go_op <| go_dget <| go_var rfl <| go_var rfl <| st_dgetF R (MutD.of (.there (.there (.there (.here))))).has rfl h fun x19 v20 R h => ?_
    refine go_c <| st_2a R .here fun w21 hw => ?_
    obtain rfl : w21 = .int x19.a := hw
    refine go_nil <| st_mk2 (x := x14) (y := x19.a) R rfl rfl fun a22 H R => ?_
    with_reducible refine go_lcadd ?_
    refine lc_add (cs := [(a13, lsF (x12 : (List Int))), (a11, dcF (r10 : (List (Int × (T2 Int Int))))), chipO K p4 r8 x7, (a_script0, b_script0)]) (F := F) (x := (T2.mk x14 x19.a)) hl ?_ (R.atC .here) R (.cons (.there (.there (.here))) (.cons (.there (.there (.here))) (.cons (.there (.there (.here))) (.cons (.there (.there (.here))) (.cons (.there (.there (.here))) (.cons (.there (.there (.here))) .nil)))))) (.skip (.skip (.refl)))
    exact h
  refine go_name <| ?_
  with_reducible refine go_seq ?_
  with_reducible refine go_asg ?_
  refine go_op <| go_call <| go_cons <| go_var rfl <| go_cons <| go_c <| go_nil <| SpS.call R (.cons (.there (.there (.there (.there (.here))))) .nil) ⟨_, _, l_script0, (3 : Int), rfl, rfl, rd_script0, Out.use h fun r25 h H R => ?_⟩
  refine go_op <| go_CB <| go_cons <| go_var rfl <| go_nil <| st_len R (HasL.of (.there (.here)) RdL.ls) <| go_c <| go_I0 <| st_mod h fun x26 h => ?_
  refine go_name <| ?_
  with_reducible refine go_seq ?_
  with_reducible refine go_asg ?_
  refine go_op <| go_slice <| go_var rfl <| go_slAt <| go_part <| go_var rfl <| go_partAt <| go_noPart <| st_cut R (HasL.of (.there (.here)) RdL.ls) fun a27 H R => ?_
  refine go_slice <| go_var rfl <| go_slAt <| go_noPart <| go_part <| go_var rfl <| go_partAt <| st_cut R (HasL.of (.there (.there (.here))) RdL.ls) fun a28 H R => ?_
  refine st_cat R (MutL.of (.there (.here))) (MutL.of .here) h fun x29 a30 H R h => ?_
  refine go_name <| ?_
  with_reducible refine go_seq ?_
  with_reducible refine go_ifS ?_
  refine go_test <| go_op <| go_call <| go_cons <| go_var rfl <| go_cons <| go_CB <| go_cons <| go_var rfl <| go_nil <| st_listOf R (HasL.of .here RdL.ls) fun a31 H R => ?_
  refine go_nil <| SpS.call R (.cons (.there (.there (.there (.there (.there (.there (.there (.there (.here))))))))) (.cons .here .nil)) ⟨_, _, _, _, _, x29, rfl, rfl, RdL.ls, Out.use h fun r32 h a33 H R => ?_⟩
  refine go_lst <| go_nil <| st_new (xs := ([] : (List (T3 Int Int Str)))) R .nil (by show 0 ≤ 1000; decide) fun a34 H R => ?_
  refine st_neL R (HasL.of (.there (.here)) RdL.ls) (HasL.of .here RdL.ls) (by decide) h fun x35 h => ?_
  refine go_bl <| st_ite h (fun hc h => ?_) (fun hc h => ?_)
  · with_reducible refine go_ret ?_
    refine go_c <| ?_
    exact h _ (R.fin (cs := [_]) (.cons (.there (.there (.there (.there (.there (.there (.there (.here)))))))) .nil) (.skip (.skip (.skip (.skip (.skip (.skip (.skip (.skip (.skip (.skip (.refl))))))))))))
  · with_reducible refine go_next ?_
    with_reducible refine go_seq ?_
    with_reducible refine go_for ?_
    refine go_iRng2 <| go_cons <| go_c <| go_cons <| go_CB <| go_cons <| go_CB <| go_cons <| go_var rfl <| go_nil <| st_len R (HasL.of (.there (.there (.there (.there (.there (.there (.there (.here)))))))) rd_script0) <| go_cons <| go_c <| go_nil <| st_min2 <| go_nil <| st_rng2 h fun x36 w h => ?_
    refine st_forC (S := (List (T2 Int Int))) (ρ := Bool) w (fun s37 σ L => ∃ (a38 : Addr) (u39 : Option V) (u40 : Option V) (u41 : Option V) (u42 : Option V), σ = [some (.ref a_script0), some (.int (((4 : Int) + (r1 % (4 : Int))))), some (.int (((1 : Int) + (r2 % (4 : Int))))), some (.int r3), some (.ref p4), some (.ref a11), some (.ref a38), some (.int x26), u39, u40, u41, u42] ∧ L = (a38, lsF (s37 : (List (T2 Int Int)))) :: chipO K p4 r8 x7 :: (a_script0, b_script0) :: (a11, dcF (r10 : (List (Int × (T2 Int Int))))) :: F) (R.fin (cs := [_, _, _, _]) (.cons (.there (.there (.there (.there (.here))))) (.cons (.there (.there (.here))) (.cons (.there (.there (.there (.there (.there (.here)))))) (.cons (.there (.there (.there (.there (.there (.there (.there (.here)))))))) .nil)))) (.skip (.skip (.skip (.skip (.skip (.skip (.skip (.refl))))))))) h ⟨_, _, _, _, _, rfl, rfl⟩ (fun _ _ _ _ => trivial) (fun s37 σ H L R p h => ?_) (fun hd s37 x43 v44 cs σ H L ys p hy R h => ?_)
    · obtain ⟨a38, u39, u40, u41, u42, rfl, rfl⟩ := p
      with_reducible refine go_ret ?_
      refine go_op <| go_call <| go_cons <| go_var rfl <| go_cons <| go_CB <| go_cons <| go_var rfl <| go_nil <| st_listOf R (HasL.of .here RdL.ls) fun a45 H R => ?_
      refine go_nil <| SpS.call R (.cons (.there (.there (.here))) (.cons .here .nil)) ⟨_, _, _, _, _, s37, rfl, rfl, RdL.ls, Out.use h fun r46 h a47 H R => ?_⟩
      refine go_call <| go_cons <| go_var rfl <| go_cons <| go_op <| go_var rfl <| go_var rfl <| st_mul h fun x48 h => ?_
      refine go_cons <| go_var rfl <| go_cons <| go_var rfl <| go_nil <| SpS.call R (.cons (.there (.here)) (.cons (.there (.there (.there (.there (.here))))) (.cons (.there (.there (.here))) .nil))) ⟨_, _, _, x48, _, _, _, _, s37, rfl, rfl, RdL.ls, Out.use h fun r49 h a50 H R => ?_⟩
      refine st_eqL R (HasL.of (.there (.there (.there (.there (.here))))) RdL.ls) (HasL.of .here RdL.ls) (by decide) h fun x51 h => ?_
      exact h _ (R.fin (cs := [_]) (.cons (.there (.there (.there (.there (.there (.there (.here))))))) .nil) (.skip (.skip (.skip (.skip (.skip (.skip (.refl))))))))
    · obtain ⟨a38, u39, u40, u41, u42, rfl, rfl⟩ := p
      obtain ⟨rfl, rfl⟩ := hy
      refine go_name <| ?_
      with_reducible refine go_seq ?_
      with_reducible refine go_asg ?_
      refine go_call <| go_cons <| go_var rfl <| go_cons <| go_op <| go_op <| go_var rfl <| go_var rfl <| st_ixI R (HasL.of (.there (.there (.here))) rd_script0) h fun x52 h => ?_
      refine go_c <| go_I ⟨by decide, by decide⟩ <| go_cons <| go_op <| go_var rfl <| go_var rfl <| st_mul h fun x53 h => ?_
      refine go_cons <| go_var rfl <| go_nil <| SpS.call R (.cons .here .nil) ⟨_, _, s37, (x52 / (3 : Int)), x53, r3, rfl, rfl, RdL.ls, Out.use h fun r54 h a55 H R => ?_⟩
      refine go_name <| ?_
      with_reducible refine go_seq ?_
      with_reducible refine go_asg ?_
      refine go_CB <| go_cons <| go_var rfl <| go_nil <| st_listOf R (HasL.of .here RdL.ls) fun a56 H R => ?_
      refine go_name <| ?_
      with_reducible refine go_seq ?_
      with_reducible refine go_asg ?_
      refine go_call <| go_cons <| go_var rfl <| go_cons <| go_var rfl <| go_nil <| SpS.call R (.cons (.there (.there (.there (.here)))) (.cons .here .nil)) ⟨_, _, _, _, _, r54, rfl, rfl, RdL.ls, Out.use h fun r57 h a58 H R => ?_⟩
      refine go_name <| ?_
      with_reducible refine go_ifS ?_
      refine gn_or <| go_not <| go_B <| go_CB <| go_cons <| go_var rfl <| go_cons <| go_c <| go_nil <| st_isiL R (MutL.of .here) <| go_bl <| st_orC R h (fun b65 H R h => ?_) (fun k h => ?_)
      rotate_left
      · refine gn_or <| go_test <| go_op <| go_var rfl <| go_call <| go_cons <| go_var rfl <| go_cons <| go_op <| go_var rfl <| go_var rfl <| st_mul h fun x59 h => ?_
        refine go_cons <| go_var rfl <| go_cons <| go_var rfl <| go_nil <| SpS.call R (.cons (.there (.here)) (.cons (.there (.there (.there (.there (.there (.here)))))) (.cons (.there (.there (.here))) .nil))) ⟨_, _, _, x59, _, _, _, _, r54, rfl, rfl, RdL.ls, Out.use h fun r60 h a61 H R => ?_⟩
        refine st_neL R (HasL.of (.there (.there (.there (.there (.here))))) RdL.ls) (HasL.of .here RdL.ls) (by decide) h fun x62 h => ?_
        refine go_bl <| st_orC R h (fun b64 H R h => ?_) (fun k h => ?_)
        rotate_left
        · refine go_test <| go_op <| go_var rfl <| go_var rfl <| st_neL R (HasL.of (.there (.there (.there (.there (.there (.here)))))) RdL.ls) (HasL.of (.there (.there (.there (.here)))) RdL.ls) (by decide) h fun x63 h => ?_
          refine go_bl <| ?_
          exact k _ _ (R.fin (cs := [_, _, _, _, _, _, _, _]) (.cons .here (.cons .here (.cons .here (.cons .here (.cons .here (.cons .here (.cons .here (.cons .here .nil)))))))) .refl) h
        exact k _ _ (R.fin (cs := [_, _, _, _, _, _, _]) (.cons (.there (.there (.there (.there (.here))))) (.cons (.there (.here)) (.cons (.there (.there (.there (.here)))) (.cons (.there (.there (.here))) (.cons (.there (.there (.here))) (.cons (.there (.there (.here))) (.cons (.there (.here)) .nil))))))) (.skip (.refl))) h
      refine st_ite h (fun hc h => ?_) (fun hc h => ?_)
      · with_reducible refine go_ret ?_
        refine go_c <| ?_
        exact h _ (R.fin (cs := [_]) (.cons (.there (.there (.there (.there (.there (.here)))))) .nil) (.skip (.skip (.skip (.skip (.skip (.skip (.refl))))))))
      · with_reducible refine go_next ?_
        with_reducible refine go_loop ?_
        exact loop_end (cs := [_, _, _, _]) r54 h ⟨_, _, _, _, _, rfl, rfl⟩ R (.cons (.there (.there (.there (.here)))) (.cons (.there (.here)) (.cons (.there (.there (.there (.here)))) (.cons (.there (.there (.there (.here)))) .nil)))) (.skip (.skip (.skip (.refl))))
end Wn
namespace Wn
open PySem L2
/-! ### the plain side: when a mirror ends well -/
def Is {ε α : Type} (m : Res ε α) (P : α → Prop) : Prop := ∃ a, m = .ok a ∧ P a
section
variable {ε α β S : Type} {P : α → Prop} {Q : β → Prop}
theorem is_ok {a : α} (h : P a) : Is (.ok a : Res ε α) P := ⟨a, rfl, h⟩
theorem is_of {m : Res ε α} {a : α} (e : m = .ok a) (h : P a) : Is m P := ⟨a, e, h⟩
theorem is_bind {m : Res Empty α} {f : α → Res ε β} (h : Is m P) (k : ∀ a, P a → Is (f a) Q) : Is (m.bind f) Q := by
  obtain ⟨a, e, h⟩ := h
  rw [e]; exact k a h
theorem is_then {m : Res ε α} {f : α → Res ε β} (h : Is m P) (k : ∀ a, P a → Is (f a) Q) : Is (m.then_ f) Q := by
  obtain ⟨a, e, h⟩ := h
  rw [e]; exact k a h
theorem is_cond {c : Bool} {m1 m2 : Res ε β} (h1 : c = true → Is m1 Q) (h2 : c = false → Is m2 Q) : Is (cond c m1 m2) Q := by
  cases c with
  | true => exact h1 rfl
  | false => exact h2 rfl
theorem is_mono {m : Res ε α} {P' : α → Prop} (h : Is m P) (k : ∀ a, P a → P' a) : Is m P' := by
  obtain ⟨a, e, h⟩ := h
  exact ⟨a, e, k a h⟩
theorem guard_ok {p : Prop} [Decidable p] {a : α} (h : p) : Res.guard p a = .ok a := if_pos h
theorem mulI_ok {i j : Int} (h : CMul i j) : mulI i j = .ok (i * j) := guard_ok h
theorem divI_ok {i j : Int} (h : 0 < j) (h2 : j < 1073741824) : divI i j = .ok (i / j) := guard_ok ⟨h, h2⟩
theorem modI_ok {i j : Int} (h : 0 < j) : modI i j = .ok (i % j) := guard_ok h
theorem ixL_ok {xs : List α} {i : Int} {x : α} (h : 0 ≤ i) (e : xs[i.toNat]? = some x) : ixL xs i = .ok x := by
  unfold ixL; rw [atI_of h e]; rfl
theorem ixL_nat {xs : List α} {i : Nat} {x : α} (e : xs[i]? = some x) : ixL xs (i : Int) = .ok x := ixL_ok (by omega) (by rw [Int.toNat_natCast]; exact e)
theorem setL_ok {xs : List α} {i : Int} {x : α} (h : 0 ≤ i) (h2 : i < xs.length) : setL xs i x = .ok (xs.set i.toNat x) := by
  unfold setL; rw [ixN_of h h2]; rfl
theorem augL_ok {xs : List Int} {i x : Int} {g : Int → Int} (h : 0 ≤ i) (e : xs[i.toNat]? = some x) : augL xs i g = .ok (xs.set i.toNat (g x)) := by
  have h2 := (List.getElem?_eq_some_iff.mp e).1
  unfold augL; rw [ixN_of h (by omega)]; simp [e, Res.ofO]
theorem appL_ok {xs : List α} {x : α} (h : xs.length < 1000000) : appL xs x = .ok (xs ++ [x]) := guard_ok h
theorem catL_ok {xs ys : List α} (h : xs.length + ys.length ≤ 1000000) : catL xs ys = .ok (xs ++ ys) := guard_ok h
theorem repL_one {x : α} {k : Int} (h0 : 0 ≤ k) (h : k ≤ 1000000) : repL [x] k = .ok (List.replicate k.toNat x) := by
  unfold repL
  rw [guard_ok ⟨by omega, by omega, by show 1 * k.toNat ≤ few; unfold few; omega⟩]
  congr 1
  generalize k.toNat = n
  induction n with
  | zero => rfl
  | succ n ih => rw [List.replicate_succ, List.flatten_cons, ih, List.replicate_succ]; rfl
theorem rng1_ok {n : Int} (h0 : -1000000 ≤ n) (h : n ≤ 1000000) : rng1 n = .ok (rangeL 0 n) := guard_ok (by omega)
theorem rng2_ok {m n : Int} (h : -1000000 ≤ m ∧ m ≤ 1000000) (h2 : -1000000 ≤ n ∧ n ≤ 1000000) : rng2 m n = .ok (rangeL m n) := guard_ok (by omega)
theorem mem_rangeL {lo hi i : Int} : i ∈ rangeL lo hi ↔ lo ≤ i ∧ i < hi := by
  unfold rangeL
  rw [List.mem_map]
  constructor
  · rintro ⟨k, hk, rfl⟩
    rw [List.mem_range] at hk
    omega
  · rintro ⟨h1, h2⟩
    exact ⟨(i - lo).toNat, by rw [List.mem_range]; omega, by omega⟩
theorem foldR_is {fb : S → α → Res ε S} (I : List α → S → Prop) : ∀ {xs pre : List α} {s : S}, I pre s → (∀ p x q s, pre ++ xs = p ++ x :: q → I p s → Is (fb s x) (I (p ++ [x]))) → Is (foldR fb s xs) (I (pre ++ xs))
  | [], pre, s, h, _ => by rw [List.append_nil]; exact is_ok h
  | x :: xs, pre, s, h, k => by
    refine is_then (k pre x xs s rfl h) fun s' h' => ?_
    have := foldR_is I (xs := xs) (pre := pre ++ [x]) h' (fun p y q s e hp => k p y q s (by rw [← e, List.append_assoc]; rfl) hp)
    rw [List.append_assoc] at this
    exact this
theorem foldR_all {fb : S → α → Res ε S} (I : List α → S → Prop) {xs : List α} {s : S} (h : I [] s) (k : ∀ p x q s, xs = p ++ x :: q → I p s → Is (fb s x) (I (p ++ [x]))) : Is (foldR fb s xs) (I xs) :=
  foldR_is I (pre := []) h k
theorem foldR_eq {fb : S → α → Res ε S} {g : S → α → S} : ∀ {xs : List α} {s : S}, (∀ s x, x ∈ xs → fb s x = .ok (g s x)) → foldR fb s xs = .ok (xs.foldl g s)
  | [], s, _ => rfl
  | x :: xs, s, h => by
    show (fb s x).then_ _ = _
    rw [h s x List.mem_cons_self]
    exact foldR_eq fun s y hy => h s y (List.mem_cons_of_mem _ hy)
theorem forR_all {ρ : Type} {fb : S → α → Res ε (Ctl S ρ)} (I : S → Prop) : ∀ {xs : List α} {s : S}, I s → (∀ s x, x ∈ xs → I s → Is (fb s x) (fun c => ∃ s', c = .nx s' ∧ I s')) → Is (forR fb s xs) (fun c => ∃ s', c = .nx s' ∧ I s')
  | [], s, h, _ => is_ok ⟨s, rfl, h⟩
  | x :: xs, s, h, k => by
    refine is_then (k s x List.mem_cons_self h) fun c hc => ?_
    obtain ⟨s', rfl, h'⟩ := hc
    exact forR_all I h' fun s y hy => k s y (List.mem_cons_of_mem _ hy)
end
/-! bits -/
theorem and_127 (i : Int) : Builtin.bitAnd i 127 = i % 128 := PySem.W.kbt_mask i 7
theorem and_1 (i : Int) : Builtin.bitAnd i 1 = i % 2 := PySem.W.kbt_mask i 1
theorem or_mark {a r : Int} (h1 : 0 ≤ a) (h2 : 0 ≤ r) (h3 : r < 128) : Builtin.bitOr (a * 2 ^ 7) r = a * 128 + r := by
  have := or_low (q := a) (k := 7) h1 h2 h3
  rw [this]; rfl
/-! dicts -/
section
variable {κ α : Type} [Ky κ] {k n : κ} {x : α}
theorem dLook_nil : dLook ([] : List (κ × α)) n = none := rfl
theorem dLook_cons {p : κ × α} {l : List (κ × α)} : dLook (p :: l) n = if p.1 = n then some p.2 else dLook l n := by
  unfold dLook
  rw [List.find?_cons]
  by_cases h : p.1 = n
  · rw [if_pos h, decide_eq_true h]; rfl
  · rw [if_neg h, decide_eq_false h]
theorem dLook_app {l m : List (κ × α)} : dLook (l ++ m) n = (dLook l n).or (dLook m n) := by
  induction l with
  | nil => rfl
  | cons p l ih =>
    rw [List.cons_append, dLook_cons, dLook_cons, ih]
    by_cases h : p.1 = n
    · rw [if_pos h, if_pos h]; rfl
    · rw [if_neg h, if_neg h]
theorem dLook_any {l : List (κ × α)} : (l.any fun q => decide (q.1 = n)) = (dLook l n).isSome := by
  induction l with
  | nil => rfl
  | cons p l ih =>
    rw [List.any_cons, dLook_cons, ih]
    by_cases h : p.1 = n
    · rw [if_pos h, decide_eq_true h]; rfl
    · rw [if_neg h, decide_eq_false h]; rfl
theorem dLook_mapPut {l : List (κ × α)} : dLook (l.map fun q => if q.1 = k then (q.1, x) else q) n = if n = k then (if (dLook l k).isSome then some x else none) else dLook l n := by
  induction l with
  | nil => simp [dLook_nil]
  | cons p l ih =>
    rw [List.map_cons, dLook_cons, dLook_cons, dLook_cons, ih]
    by_cases h : p.1 = k
    · rw [if_pos h]
      by_cases h2 : n = k
      · simp [h, h2]
      · have h3 : ¬ p.1 = n := fun z => h2 (by rw [← z, h])
        simp [h2, h3, h, show ¬ k = n from fun z => h2 z.symm]
    · rw [if_neg h]
      by_cases h2 : p.1 = n
      · simp [h2, show ¬ n = k from fun z => h (by rw [h2, z])]
      · simp [h, h2]
theorem dLook_put {l : List (κ × α)} : dLook (dPut l k x) n = if n = k then some x else dLook l n := by
  unfold dPut
  rw [dLook_any]
  by_cases h : (dLook l k).isSome = true
  · rw [if_pos h, dLook_mapPut, if_pos h]
  · rw [if_neg h, dLook_app, dLook_cons, dLook_nil]
    by_cases h2 : n = k
    · subst h2
      have : dLook l n = none := by cases e : dLook l n <;> simp_all
      simp [this]
    · rw [if_neg h2, if_neg (fun z => h2 z.symm)]; simp
theorem dLook_drop {l : List (κ × α)} : dLook (dDrop l k) n = if n = k then none else dLook l n := by
  unfold dDrop
  induction l with
  | nil => simp [dLook_nil]
  | cons p l ih =>
    rw [List.filter_cons]
    by_cases h : p.1 = k
    · rw [if_neg (by simp [h]), ih, dLook_cons]
      by_cases h2 : n = k
      · simp [h2]
      · simp [h2, show ¬ p.1 = n from fun z => h2 (by rw [← z, h])]
    · rw [if_pos (by simp [h]), dLook_cons, dLook_cons, ih]
      by_cases h2 : n = k
      · subst h2; simp [h]
      · simp [h2]
theorem dLook_key {l : List (κ × α)} : n ∈ l.map (·.1) ↔ (dLook l n).isSome = true := by
  rw [← dLook_any, List.any_eq_true, List.mem_map]
  simp only [decide_eq_true_eq]
theorem dPut_keys {l : List (κ × α)} (h : (l.map (·.1)).Nodup) : ((dPut l k x).map (·.1)).Nodup := by
  unfold dPut
  by_cases c : (l.any fun q => decide (q.1 = k)) = true
  · rw [if_pos c, List.map_map]
    have e : ((fun q : κ × α => q.1) ∘ fun q => if q.1 = k then (q.1, x) else q) = fun q => q.1 := by
      funext q; simp only [Function.comp]; split <;> rfl
    rw [e]; exact h
  · rw [if_neg c, List.map_append]
    refine List.nodup_append.mpr ⟨h, by simp, fun a ha b hb z => c ?_⟩
    simp at hb; subst hb; subst z
    rw [dLook_any]; exact dLook_key.mp ha
theorem dDrop_keys {l : List (κ × α)} (h : (l.map (·.1)).Nodup) : ((dDrop l k).map (·.1)).Nodup := List.Sublist.nodup (List.Sublist.map _ List.filter_sublist) h
theorem dPut_len {l : List (κ × α)} : (dPut l k x).length ≤ l.length + 1 := by
  unfold dPut
  split
  · rw [List.length_map]; omega
  · rw [List.length_append]; simp
theorem dDrop_len {l : List (κ × α)} : (dDrop l k).length ≤ l.length := List.length_filter_le _ _
theorem getD_ok {l : List (κ × α)} (h : dLook l k = some x) : getD_ l k = .ok x := by unfold getD_; rw [h]; rfl
theorem putD_ok {l : List (κ × α)} (h : l.length < 1000000) : putD_ l k x = .ok (dPut l k x) := guard_ok h
end
theorem sortI_same {xs ys : List Int} (h1 : xs.Nodup) (h2 : ys.Nodup) (h : ∀ n, n ∈ xs ↔ n ∈ ys) : sortI xs = sortI ys := by
  have p : xs.Perm ys := (List.perm_ext_iff_of_nodup h1 h2).mpr h
  have s : (sortI xs).Pairwise (· ≤ ·) := by
    have := List.pairwise_mergeSort (le := fun a b : Int => decide (a ≤ b)) (fun a b c h1 h2 => by simp at *; omega) (fun a b => by simp; omega) xs
    exact this.imp fun h => by simpa using h
  exact sortI_eq ((List.mergeSort_perm ..).trans p) s
theorem mem_sortI {xs : List Int} {n : Int} : n ∈ sortI xs ↔ n ∈ xs := (List.mergeSort_perm ..).mem_iff
theorem len_sortI {xs : List Int} : (sortI xs).length = xs.length := (List.mergeSort_perm ..).length_eq
end Wn
namespace Wn
open PySem L2
theorem within_ok {i lo hi : Int} : m_is_within i lo hi = .ok (decide (lo ≤ i) && decide (i ≤ hi)) := by
  unfold m_is_within m_is_whole; rfl
/-- a chip that no ill and no cut touches -/
structure Quiet (c : ChipM) : Prop where
  b : 2 ≤ c.blocks ∧ c.blocks ≤ 16
  p : 1 ≤ c.pages ∧ c.pages ≤ 16
  stuff : (c.stuff.length : Int) = c.blocks * c.pages
  left : c.left = none
  lasts : (c.lasts.length : Int) = c.blocks ∧ ∀ x ∈ c.lasts, x = none
  tried : (c.tried.length : Int) = c.blocks
  clear : (c.clearings.length : Int) = c.blocks
  broken : (c.broken.length : Int) = c.blocks ∧ ∀ x ∈ c.broken, x = false
theorem getEx {α : Type} {l : List α} {i : Nat} (h : i < l.length) : ∃ x, l[i]? = some x := ⟨l[i], List.getElem?_eq_getElem h⟩
theorem mul_bd {a b x y : Int} (h1 : 0 ≤ a) (h2 : a ≤ x) (h3 : 0 ≤ b) (h4 : b ≤ y) : 0 ≤ a * b ∧ a * b ≤ x * y :=
  ⟨Int.mul_nonneg h1 h3, Int.mul_le_mul h2 h4 h3 (by omega)⟩
theorem Quiet.size {c : ChipM} (q : Quiet c) : c.stuff.length ≤ 256 := by
  obtain ⟨p1, p2⟩ := q.p
  obtain ⟨b1, b2⟩ := q.b
  have h := mul_bd (a := c.blocks) (b := c.pages) (x := 16) (y := 16) (by omega) b2 (by omega) p2
  have := q.stuff
  omega
theorem need_page_ok {c : ChipM} {i : Int} (h : 0 ≤ i) (h2 : i < c.stuff.length) : m_Chip_need_page c i = .ok () := by
  unfold m_Chip_need_page
  rw [within_ok, Res.bind_ok, decide_eq_true h, decide_eq_true (by omega)]; rfl
theorem need_power_ok {c : ChipM} (h : c.left = none) : m_Chip_need_power c = .ok () := by
  unfold m_Chip_need_power m_Chip_is_dark
  rw [h]; rfl
theorem read_ok {c : ChipM} {i : Int} {o : Option (T2 Int Int)} (h : c.left = none) (h0 : 0 ≤ i) (e : c.stuff[i.toNat]? = some o) : m_Chip_read c i = .ok o := by
  have := (List.getElem?_eq_some_iff.mp e).1
  unfold m_Chip_read
  rw [need_page_ok h0 (by omega), Res.bind_ok, need_power_ok h, Res.bind_ok, ixL_ok h0 e]; rfl
theorem put_quiet {c : ChipM} {i : Int} {t : T2 Int Int} (q : Quiet c) (h0 : 0 ≤ i) (e : c.stuff[i.toNat]? = some none) (hl : c.log.length < 900000) :
    Is (m_Chip_put c i t) fun d => Quiet d ∧ d.blocks = c.blocks ∧ d.pages = c.pages ∧ d.stuff = c.stuff.set i.toNat (some t) ∧ d.log.length = c.log.length + 1 := by
  obtain ⟨q1, q2, q3, q4, ⟨q5, q6⟩, q7, q8, q9, q10⟩ := id q
  have hi := (List.getElem?_eq_some_iff.mp e).1
  have hb0 : 0 ≤ i / c.pages := Int.ediv_nonneg h0 (by omega)
  have hb1 : i / c.pages < c.blocks := Int.ediv_lt_of_lt_mul (by omega) (by omega)
  obtain ⟨br, hbr⟩ := getEx (l := c.broken) (i := (i / c.pages).toNat) (by omega)
  obtain ⟨tr, htr⟩ := getEx (l := c.tried) (i := (i / c.pages).toNat) (by omega)
  obtain ⟨la, hla⟩ := getEx (l := c.lasts) (i := (i / c.pages).toNat) (by omega)
  have ebr := q10 br (List.mem_of_getElem? hbr)
  have ela := q6 la (List.mem_of_getElem? hla)
  subst ebr ela
  unfold m_Chip_put
  rw [need_page_ok h0 (by omega), Res.bind_ok, need_power_ok q4, Res.bind_ok, divI_ok (by omega) (by omega), Res.bind_ok]
  unfold m_Chip_need_good m_Chip_goes_well
  rw [ixL_ok hb0 hbr, Res.bind_ok, cond_false, Res.bind_ok, ixL_ok h0 e, Res.bind_ok, q4]
  show Is (Res.bind _ _) _
  rw [Option.isSome_none, cond_false, Res.then_ok, ixL_ok hb0 htr, Res.bind_ok, ixL_ok hb0 hla, Res.bind_ok, andR_ok, Res.then_ok, augL_ok hb0 htr, Res.bind_ok, setL_ok hb0 (by show _ < ((c.broken.length : Nat) : Int); omega), Res.bind_ok, Res.bind_ok]
  have e1 : ((!false) && !decide ((none : Option Int) = some tr)) = true := rfl
  rw [e1, appL_ok (by show c.log.length < 1000000; omega), Res.bind_ok, Bool.not_true, cond_false, setL_ok h0 (by show i < ((c.stuff.length : Nat) : Int); omega), Res.bind_ok]
  refine is_ok ⟨⟨q1, q2, ?_, q4, ⟨q5, q6⟩, ?_, q8, ?_, fun x hx => ?_⟩, rfl, rfl, rfl, ?_⟩
  · show (((c.stuff.set _ _).length : Nat) : Int) = _
    rw [List.length_set]; exact q3
  · show (((c.tried.set _ _).length : Nat) : Int) = _
    rw [List.length_set]; exact q7
  · show (((c.broken.set _ _).length : Nat) : Int) = _
    rw [List.length_set]; exact q9
  · have hx : x ∈ c.broken.set (i / c.pages).toNat (!true) := hx
    rcases List.mem_or_eq_of_mem_set hx with h | h
    · exact q10 x h
    · exact h
  · show (c.log ++ [_]).length = _
    rw [List.length_append]; rfl
theorem chip_new {b p : Int} (h1 : 2 ≤ b ∧ b ≤ 16) (h2 : 1 ≤ p ∧ p ≤ 16) : Is (m_Chip___init__ b p 1000000 ()) fun c => Quiet c ∧ c.blocks = b ∧ c.pages = p ∧ c.stuff = List.replicate (b * p).toNat none ∧ c.log = [] := by
  have hm := mul_bd (a := b) (b := p) (x := 16) (y := 16) (by omega) h1.2 (by omega) h2.2
  unfold m_Chip___init__
  simp only [within_ok, Res.bind_ok, Res.then_ok, orR_ok, decide_eq_true h1.1, decide_eq_true h1.2, decide_eq_true h2.1, decide_eq_true h2.2, Bool.and_self, Bool.not_true, Bool.or_false, Bool.false_or]
  show Is (Res.bind (m_endurance b ()) _) _
  unfold m_endurance
  rw [repL_one (by omega) (by omega), Res.bind_ok, Res.bind_ok, mulI_ok (.inl (by omega)), Res.bind_ok, repL_one (by omega) (by omega), Res.bind_ok, repL_one (by omega) (by omega), Res.bind_ok, Res.bind_ok, repL_one (by omega) (by omega), Res.bind_ok]
  refine is_ok ⟨⟨h1, h2, ?_, rfl, ⟨?_, fun x hx => List.eq_of_mem_replicate hx⟩, ?_, ?_, ?_, fun x hx => List.eq_of_mem_replicate hx⟩, rfl, rfl, rfl, rfl⟩
  · show (((List.replicate (b * p).toNat _).length : Nat) : Int) = b * p
    rw [List.length_replicate]; omega
  all_goals
    show (((List.replicate b.toNat _).length : Nat) : Int) = b
    rw [List.length_replicate]; omega
end Wn
namespace Wn
open PySem L2
theorem cell_ok (ns : List Int) (k : Nat) : Is (m__law_cell_at ns (k : Int)) fun _ => True := by
  unfold m__law_cell_at
  refine is_cond (fun h => ?_) fun _ => is_ok trivial
  have h := of_decide_eq_true h
  obtain ⟨x, hx⟩ := getEx (l := ns) (i := k) (by omega)
  rw [ixL_nat hx]; exact is_ok trivial
theorem mix_ok (cell k : Int) : Is (m__law_mix cell k) fun x => 0 ≤ x := by
  unfold m__law_mix
  have h := Int.emod_nonneg ((cell % 2147483647 + 7919 * k + 17) * 48271) (b := 2147483647) (by decide)
  have h2 := Int.emod_lt_of_pos ((cell % 2147483647 + 7919 * k + 17) * 48271) (b := 2147483647) (by decide)
  rw [mulI_ok (.inl ⟨by omega, by omega⟩), Res.bind_ok]
  exact is_ok (Int.emod_nonneg _ (by decide))
theorem name_ok {k : Int} (way : Int) (h : 0 ≤ k ∧ k ≤ 5) : Is (m__law_name k way) fun x => 0 ≤ x ∧ x ≤ 63 := by
  unfold m__law_name
  have h1 := Int.emod_nonneg way (b := 12) (by decide)
  have h2 := Int.emod_lt_of_pos way (b := 12) (by decide)
  have h3 := mul_bd (a := k) (b := 1 + way % 12) (x := 5) (y := 12) h.1 h.2 (by omega) (by omega)
  rw [mulI_ok (.inl ⟨by omega, by omega⟩), Res.bind_ok]
  exact is_cond (fun _ => is_ok (by omega)) fun _ => is_ok (by omega)
theorem or_bd {a b : Int} (ha : 0 ≤ a ∧ a < 2 ^ 64) (hb : 0 ≤ b ∧ b < 2 ^ 64) : 0 ≤ Builtin.bitOr a b ∧ Builtin.bitOr a b < 2 ^ 64 := by
  rw [bitOr_nn ha.1 hb.1]
  have := Nat.or_lt_two_pow (x := a.toNat) (y := b.toNat) (n := 64) (by omega) (by omega)
  omega
theorem bits_ok (cell way : Int) : Is (m__law_bits cell way) fun x => 0 ≤ x ∧ x < 2 ^ 64 := by
  unfold m__law_bits
  rw [rng1_ok (by decide) (by decide), Res.bind_ok]
  refine is_then (foldR_all (fun _ s => 0 ≤ s ∧ s < 2 ^ 64) (by decide) fun p x q s e h => ?_) fun s h => is_ok h
  have hx : x ∈ rangeL 0 6 := by rw [e]; simp
  rw [mem_rangeL] at hx
  refine is_bind (mix_ok cell x) fun y hy => is_cond (fun _ => ?_) fun _ => is_ok h
  refine is_bind (name_ok way (by omega)) fun n hn => ?_
  unfold shlI
  rw [guard_ok ⟨hn.1, by omega, by decide⟩, Res.bind_ok]
  refine is_ok (or_bd h ?_)
  have h1 : 2 ^ n.toNat ≤ 2 ^ 63 := Nat.pow_le_pow_right (by decide) (by omega)
  have h2 : 0 < 2 ^ n.toNat := Nat.pow_pos (by decide)
  have h3 : (2 : Int) ^ n.toNat = ((2 ^ n.toNat : Nat) : Int) := by rw [Int.natCast_pow]; rfl
  rw [h3]
  generalize 2 ^ n.toNat = z at *
  omega
/-- what is laid: each page a stamp of its own, a name, a value -/
structure Laid (c : ChipM) (ks : List Int) : Prop where
  pages : ∀ (p : Nat) t, c.stuff[p]? = some (some t) → (∃ k ∈ ks, t.a / 128 = 3 * k) ∧ 0 ≤ t.a ∧ t.a % 128 ≤ 64 ∧ 0 ≤ t.b ∧ t.b < 2 ^ 64
  uniq : ∀ (p q : Nat) t u, c.stuff[p]? = some (some t) → c.stuff[q]? = some (some u) → t.a / 128 = u.a / 128 → p = q
theorem lay_ok {c : ChipM} {ns : List Int} {way : Int} (q : Quiet c) (hn : ns.length ≤ 63) (hs : c.stuff = List.replicate (c.blocks * c.pages).toNat none) (hlog : c.log = []) :
    Is (m__law_lay c ns c.blocks c.pages way) fun d => Quiet d ∧ d.blocks = c.blocks ∧ d.pages = c.pages ∧ Laid d (rangeL 4 34) := by
  have bb := q.b
  have pp := q.p
  have hm := mul_bd (a := c.blocks) (b := c.pages) (x := 16) (y := 16) (by omega) bb.2 (by omega) pp.2
  unfold m__law_lay
  have hmin : min2 (ns.length : Int) 34 ≤ 34 ∧ 0 ≤ min2 (ns.length : Int) 34 ∧ min2 (ns.length : Int) 34 ≤ ns.length := by unfold min2; split <;> omega
  rw [repL_one (by omega) (by omega), Res.bind_ok, rng2_ok (by omega) (by omega), Res.bind_ok]
  refine is_then (foldR_all (fun pre (s : ChipM × List Int) => Quiet s.1 ∧ s.1.blocks = c.blocks ∧ s.1.pages = c.pages ∧ Laid s.1 pre ∧ s.1.log.length ≤ pre.length ∧ (s.2.length : Int) = c.blocks ∧
      ∀ (b : Nat) f, s.2[b]? = some f → 0 ≤ f ∧ f ≤ c.pages ∧ ∀ j : Nat, f ≤ j → (j : Int) < c.pages → s.1.stuff[b * c.pages.toNat + j]? = some none) ?_ ?_) ?_
  · refine ⟨q, rfl, rfl, ⟨fun p t h => ?_, fun p r t u h => ?_⟩, by rw [hlog]; exact Nat.zero_le _, by rw [List.length_replicate]; omega, fun b f h => ?_⟩
    · rw [hs, List.getElem?_replicate] at h; split at h <;> cases h
    · rw [hs, List.getElem?_replicate] at h; split at h <;> cases h
    · rw [List.getElem?_replicate] at h
      split at h
      · rename_i hb
        cases h
        refine ⟨Int.le_refl _, by omega, fun j _ hj => ?_⟩
        show c.stuff[_]? = _
        rw [hs, List.getElem?_replicate, if_pos]
        have h1 : (b + 1) * c.pages.toNat ≤ c.blocks.toNat * c.pages.toNat := Nat.mul_le_mul_right _ (by omega)
        rw [Nat.add_mul] at h1
        have h2 : (c.blocks * c.pages).toNat = c.blocks.toNat * c.pages.toNat := by rw [Int.toNat_mul (by omega) (by omega)]
        omega
      · cases h
  · rintro pre x post ⟨d, fl⟩ e ⟨q1, eb, ep, la, hl, hfl, inv⟩
    have hx : x ∈ rangeL 4 (min2 (ns.length : Int) 34) := by rw [e]; simp
    rw [mem_rangeL] at hx
    have hnod : (pre ++ x :: post).Nodup := by
      rw [← e]
      unfold rangeL
      exact List.pairwise_map.mpr ((List.nodup_range (n := (min2 (ns.length : Int) 34 - 4).toNat)).imp fun h z => h (by omega))
    have hxp : x ∉ pre := fun h => by
      have := (List.nodup_append.mp hnod).2.2 x h x (by simp)
      exact this rfl
    have hpre : pre.length ≤ 63 := by
      have := congrArg List.length e
      rw [rangeL_len] at this
      simp at this
      omega
    obtain ⟨y, hy⟩ := getEx (l := ns) (i := x.toNat) (by omega)
    show Is (Res.bind (ixL ns x) _) _
    rw [ixL_ok (by omega) hy, Res.bind_ok, modI_ok (by omega), Res.bind_ok]
    have hb0 := Int.emod_nonneg y (b := c.blocks) (by omega)
    have hb1 := Int.emod_lt_of_pos y (b := c.blocks) (by omega)
    generalize y % c.blocks = b at *
    obtain ⟨f, hf⟩ := getEx (l := fl) (i := b.toNat) (by have hfl : (fl.length : Int) = c.blocks := hfl; omega)
    obtain ⟨f0, f1, f2⟩ := inv _ _ hf
    have hfl : (fl.length : Int) = c.blocks := hfl
    have mono : ∀ {d' : ChipM}, Laid d' pre → Laid d' (pre ++ [x]) := fun l => ⟨fun p t h => by
      obtain ⟨⟨k, hk, e1⟩, r⟩ := l.pages p t h
      exact ⟨⟨k, List.mem_append.mpr (.inl hk), e1⟩, r⟩, l.uniq⟩
    simp only [ixL_ok hb0 hf, Res.bind_ok]
    refine is_cond (fun hc => ?_) fun _ => is_ok ⟨q1, eb, ep, mono la, by rw [List.length_append]; show d.log.length ≤ _; have hl : d.log.length ≤ pre.length := hl; omega, hfl, inv⟩
    have hc := of_decide_eq_true hc
    refine is_bind (name_ok way ⟨Int.emod_nonneg _ (by decide), by have := Int.emod_lt_of_pos (y / 7) (b := 6) (by decide); omega⟩) fun n hn => ?_
    refine is_bind (mix_ok y 9) fun z hz => ?_
    refine is_then (P := fun r : Int × Int => 0 ≤ r.1 ∧ r.1 ≤ 64 ∧ 0 ≤ r.2 ∧ r.2 < 2 ^ 64) (is_cond (fun _ => is_bind (bits_ok y way) fun r hr => is_ok ⟨by show (0 : Int) ≤ 64; decide, by show (64 : Int) ≤ 64; decide, hr⟩) fun _ => is_ok ⟨hn.1, by show n ≤ 64; omega, by show 0 ≤ x; omega, by show x < 2 ^ 64; omega⟩) fun r hr => ?_
    obtain ⟨r1, r2⟩ := r
    obtain ⟨hr1, hr2, hr3, hr4⟩ := hr
    rw [mulI_ok (.inl (by omega)), Res.bind_ok]
    unfold m_mark_of shlI
    rw [guard_ok ⟨by decide, by decide, by omega⟩, Res.bind_ok]
    show Is (Res.bind (.ok (Builtin.bitOr (3 * x * 2 ^ 7) r1)) _) _
    rw [or_mark (by omega) hr1 (by omega), Res.bind_ok]
    have hpos : ((b * c.pages + f).toNat : Nat) = b.toNat * c.pages.toNat + f.toNat := by
      have h3 := Int.mul_nonneg hb0 (show 0 ≤ c.pages by omega)
      have h4 : (b * c.pages).toNat = b.toNat * c.pages.toNat := Int.toNat_mul hb0 (by omega)
      omega
    have hnone : d.stuff[(b * c.pages + f).toNat]? = some none := by
      rw [hpos]
      exact f2 f.toNat (by omega) (by omega)
    have hlg : d.log.length ≤ pre.length := hl
    have hmn := Int.mul_nonneg hb0 (show 0 ≤ c.pages by omega)
    refine is_bind (put_quiet q1 (by omega) hnone (by omega)) fun d2 hd2 => ?_
    obtain ⟨q2, eb2, ep2, es2, el2⟩ := hd2
    rw [setL_ok hb0 (by omega), Res.bind_ok]
    have hlen : (b * c.pages + f).toNat < d.stuff.length := (List.getElem?_eq_some_iff.mp hnone).1
    refine is_ok ⟨q2, eb2.trans eb, ep2.trans ep, ⟨fun p t h => ?_, fun p r' t u h1 h2 h3 => ?_⟩, by rw [List.length_append]; show d2.log.length ≤ _; simp; omega, by show (((fl.set b.toNat (f + 1)).length : Nat) : Int) = _; rw [List.length_set]; exact hfl, fun b' f' h => ?_⟩
    · have h : d2.stuff[p]? = some (some t) := h
      rw [es2, List.getElem?_set] at h
      split at h
      · rename_i hp
        cases h
        refine ⟨⟨x, by simp, ?_⟩, ?_, ?_, hr3, hr4⟩
        · show (3 * x * 128 + r1) / 128 = 3 * x; omega
        · show 0 ≤ 3 * x * 128 + r1; omega
        · show (3 * x * 128 + r1) % 128 ≤ 64; omega
      · obtain ⟨⟨k, hk, e1⟩, r⟩ := la.pages p t h
        exact ⟨⟨k, List.mem_append.mpr (.inl hk), e1⟩, r⟩
    · have h1 : d2.stuff[p]? = some (some t) := h1
      have h2 : d2.stuff[r']? = some (some u) := h2
      have fresh : ∀ (p : Nat) (t : T2 Int Int), d.stuff[p]? = some (some t) → t.a / 128 ≠ 3 * x := fun p t h z => by
        obtain ⟨⟨k, hk, e1⟩, r⟩ := la.pages p t h
        exact hxp (by rw [show x = k by omega]; exact hk)
      have ediv : (3 * x * 128 + r1) / 128 = 3 * x := by omega
      rw [es2, List.getElem?_set] at h1 h2
      split at h1
      · rename_i hp1
        split at h2
        · rename_i hp2; omega
        · cases h1
          exact absurd (h3.symm.trans ediv) (fresh _ _ h2)
      · split at h2
        · cases h2
          exact absurd (h3.trans ediv) (fresh _ _ h1)
        · exact la.uniq p r' t u h1 h2 h3
    · have h : (fl.set b.toNat (f + 1))[b']? = some f' := h
      rw [List.getElem?_set] at h
      have notin : ∀ j : Nat, (j : Int) < c.pages → (b' ≠ b.toNat ∨ (j : Int) ≠ f) → b.toNat * c.pages.toNat + f.toNat ≠ b' * c.pages.toNat + j := fun j hj hne z => by
        have hP : 0 < c.pages.toNat := by omega
        have z1 := congrArg (· / c.pages.toNat) z
        have a1 : (b.toNat * c.pages.toNat + f.toNat) / c.pages.toNat = b.toNat := by rw [Nat.add_comm, Nat.add_mul_div_right _ _ hP, Nat.div_eq_of_lt (by omega), Nat.zero_add]
        have a2 : (b' * c.pages.toNat + j) / c.pages.toNat = b' := by rw [Nat.add_comm, Nat.add_mul_div_right _ _ hP, Nat.div_eq_of_lt (by omega), Nat.zero_add]
        have z1 : (b.toNat * c.pages.toNat + f.toNat) / c.pages.toNat = (b' * c.pages.toNat + j) / c.pages.toNat := z1
        rw [a1, a2] at z1
        subst z1
        rcases hne with hne | hne
        · exact hne rfl
        · omega
      split at h
      · rename_i hbb
        rw [if_pos (show b.toNat < fl.length by omega)] at h
        cases h
        refine ⟨by omega, by omega, fun j h1 h2 => ?_⟩
        show d2.stuff[_]? = _
        rw [es2, hpos, List.getElem?_set, if_neg (notin j h2 (.inr (by omega))), ← hbb]
        exact f2 j (by omega) h2
      · rename_i hbb
        obtain ⟨g0, g1, g2⟩ := inv _ _ h
        refine ⟨g0, g1, fun j h1 h2 => ?_⟩
        show d2.stuff[_]? = _
        rw [es2, hpos, List.getElem?_set, if_neg (notin j h2 (.inl fun z => hbb z.symm))]
        exact g2 j h1 h2
  · rintro ⟨d, fl⟩ ⟨q1, eb, ep, la, _⟩
    refine is_ok ⟨q1, eb, ep, ⟨fun p t h => ?_, la.uniq⟩⟩
    obtain ⟨⟨k, hk, e1⟩, r⟩ := la.pages p t h
    rw [mem_rangeL] at hk
    exact ⟨⟨k, by rw [mem_rangeL]; omega, e1⟩, r⟩
end Wn
namespace Wn
open PySem L2
abbrev Row := T4 Int Int Int Int
/-- stamp, page, name, value -/
def rowAt (c : ChipM) (i : Int) : Option Row := match c.stuff[i.toNat]? with
  | some (some t) => some ⟨t.a / 128, i, t.a % 128, t.b⟩
  | _ => none
def rowsOf (c : ChipM) : List Row := (rangeL 0 (c.stuff.length : Int)).filterMap (rowAt c)
def sw (x : Row) : Row := ⟨x.a, x.c, x.b, x.d⟩
/-- one of a row's numbers is in the bounds of the sort -/
structure RowOk (x : Row) : Prop where
  a : 12 ≤ x.a ∧ x.a < 1000
  b : 0 ≤ x.b ∧ x.b < 1000
  c : 0 ≤ x.c ∧ x.c ≤ 64
  d : 0 ≤ x.d ∧ x.d < 2 ^ 64
theorem RowOk.bd {x : Row} (h : RowOk x) : bdT x = true := by
  obtain ⟨⟨a1, a2⟩, ⟨b1, b2⟩, ⟨c1, c2⟩, ⟨d1, d2⟩⟩ := h
  have e : sortB = 10 ^ 45 := rfl
  show ([x.a, x.b, x.c, x.d].all fun i => decide (0 ≤ i ∧ i < sortB)) = true
  simp only [List.all_cons, List.all_nil, Bool.and_true, Bool.and_eq_true, decide_eq_true_eq, e]
  exact ⟨⟨by omega, by omega⟩, ⟨b1, by omega⟩, ⟨c1, by omega⟩, d1, by omega⟩
theorem RowOk.sw {x : Row} (h : RowOk x) : bdT (sw x) = true := by
  obtain ⟨⟨a1, a2⟩, ⟨b1, b2⟩, ⟨c1, c2⟩, ⟨d1, d2⟩⟩ := h
  have e : sortB = 10 ^ 45 := rfl
  show ([x.a, x.c, x.b, x.d].all fun i => decide (0 ≤ i ∧ i < sortB)) = true
  simp only [List.all_cons, List.all_nil, Bool.and_true, Bool.and_eq_true, decide_eq_true_eq, e]
  exact ⟨⟨by omega, by omega⟩, ⟨c1, by omega⟩, ⟨b1, by omega⟩, d1, by omega⟩
/-- the chip of the law -/
structure Chp (c : ChipM) : Prop where
  q : Quiet c
  b : c.blocks ≤ 7
  p : c.pages ≤ 4
  l : Laid c (rangeL 4 34)
theorem Chp.size {c : ChipM} (h : Chp c) : c.stuff.length ≤ 28 := by
  obtain ⟨p1, p2⟩ := h.q.p
  obtain ⟨b1, b2⟩ := h.q.b
  have hm := mul_bd (a := c.blocks) (b := c.pages) (x := 7) (y := 4) (by omega) h.b (by omega) h.p
  have := h.q.stuff
  omega
theorem rowAt_some {c : ChipM} {i : Int} {x : Row} (h : rowAt c i = some x) : ∃ t, c.stuff[i.toNat]? = some (some t) ∧ x = ⟨t.a / 128, i, t.a % 128, t.b⟩ := by
  unfold rowAt at h
  split at h
  · rename_i t e; cases h; exact ⟨t, e, rfl⟩
  · cases h
theorem row_ok {c : ChipM} (h : Chp c) {x : Row} (hx : x ∈ rowsOf c) : RowOk x ∧ ∃ t, c.stuff[x.b.toNat]? = some (some t) ∧ t.a / 128 = x.a ∧ t.a % 128 = x.c ∧ t.b = x.d := by
  obtain ⟨i, hi, e⟩ := List.mem_filterMap.mp hx
  rw [mem_rangeL] at hi
  obtain ⟨t, ht, rfl⟩ := rowAt_some e
  obtain ⟨⟨k, hk, e1⟩, h1, h2, h3, h4⟩ := h.l.pages _ _ ht
  rw [mem_rangeL] at hk
  have := h.size
  exact ⟨⟨by show 12 ≤ t.a / 128 ∧ t.a / 128 < 1000; omega, by show 0 ≤ i ∧ i < 1000; omega, ⟨Int.emod_nonneg _ (by decide), h2⟩, h3, h4⟩, t, ht, rfl, rfl, rfl⟩
theorem rows_nodup {c : ChipM} (h : Chp c) : ((rowsOf c).map (·.a)).Nodup := by
  unfold rowsOf
  rw [List.map_filterMap]
  refine List.pairwise_filterMap.mpr ?_
  have hn : (rangeL 0 (c.stuff.length : Int)).Nodup := List.pairwise_map.mpr ((List.nodup_range (n := ((c.stuff.length : Int) - 0).toNat)).imp fun h z => h (by omega))
  have hr : ∀ i ∈ rangeL 0 (c.stuff.length : Int), 0 ≤ i := fun i hi => (mem_rangeL.mp hi).1
  refine List.Pairwise.imp_of_mem ?_ hn
  intro i j hi hj hne a ha b hb z
  obtain ⟨x, hx, rfl⟩ := Option.map_eq_some_iff.mp ha
  obtain ⟨y, hy, rfl⟩ := Option.map_eq_some_iff.mp hb
  obtain ⟨t, ht, rfl⟩ := rowAt_some hx
  obtain ⟨u, hu, rfl⟩ := rowAt_some hy
  have := h.l.uniq _ _ _ _ ht hu z
  have := hr i hi
  have := hr j hj
  omega
/-- the rows, rising -/
def srt (c : ChipM) : List Row := sortT (rowsOf c)
theorem rows_all {c : ChipM} (h : Chp c) : (rowsOf c).all bdT = true := List.all_eq_true.mpr fun x hx => (row_ok h hx).1.bd
theorem rows_len {c : ChipM} (h : Chp c) : (rowsOf c).length ≤ 28 := by
  have := List.length_filterMap_le (rowAt c) (rangeL 0 (c.stuff.length : Int))
  rw [rangeL_len] at this
  have := h.size
  unfold rowsOf
  omega
theorem srt_mem {c : ChipM} {x : Row} : x ∈ srt c ↔ x ∈ rowsOf c := sortT_perm.mem_iff
theorem srt_len {c : ChipM} : (srt c).length = (rowsOf c).length := sortT_perm.length_eq
theorem srt_lt {c : ChipM} (h : Chp c) : (srt c).Pairwise fun x y => x.a < y.a := by
  have h1 := sortT_pw (rowsOf c)
  have h2 : ((srt c).map (·.a)).Nodup := ((sortT_perm (xs := rowsOf c)).map (·.a)).nodup_iff.mpr (rows_nodup h)
  have h3 : (srt c).Pairwise fun x y => x.a ≠ y.a := List.pairwise_map.mp h2
  refine (List.Pairwise.imp_of_mem ?_ (h1.and h3))
  intro x y hx hy ⟨c1, c2⟩
  rcases Int.lt_trichotomy x.a y.a with z | z | z
  · exact z
  · exact absurd z c2
  · have b1 := bdT_bd (row_ok h (srt_mem.mp hx)).1.bd
    have b2 := bdT_bd (row_ok h (srt_mem.mp hy)).1.bd
    have : TS.code sortB (y.a :: [y.b, y.c, y.d]) < TS.code sortB (x.a :: [x.b, x.c, x.d]) := TS.code_lt rfl b2.tail b1.tail z
    have c1 : TS.code sortB [x.a, x.b, x.c, x.d] ≤ TS.code sortB [y.a, y.b, y.c, y.d] := c1
    omega
theorem srt_sw {c : ChipM} (h : Chp c) : sortT ((rowsOf c).map sw) = (srt c).map sw := by
  refine (sortT_eq ?_ (sortT_perm.map sw) ?_).symm
  · rw [List.all_map]
    exact List.all_eq_true.mpr fun x hx => (row_ok h hx).1.sw
  · refine List.pairwise_map.mpr (List.Pairwise.imp_of_mem ?_ (srt_lt h))
    intro x y hx hy z
    have b1 := bdT_bd (row_ok h (srt_mem.mp hx)).1.sw
    have b2 := bdT_bd (row_ok h (srt_mem.mp hy)).1.sw
    exact Int.le_of_lt (TS.code_lt (d := x.a) (e := y.a) rfl b1.tail b2.tail z)
theorem stuff_at {c : ChipM} (h : Chp c) {i : Int} (hi : 0 ≤ i ∧ i < (c.stuff.length : Int)) : ∃ o, c.stuff[i.toNat]? = some o := getEx (by omega)
theorem rows_m {c : ChipM} (h : Chp c) : m_rows_by_stamp c = .ok (srt c) := by
  have hm := h.size
  have hs := h.q.stuff
  have q := h.q
  obtain ⟨p1, p2⟩ := q.p
  obtain ⟨b1, b2⟩ := q.b
  unfold m_rows_by_stamp
  rw [mulI_ok (.inl (by omega)), Res.bind_ok, ← hs, rng1_ok (by omega) (by omega), Res.bind_ok]
  have key : Is (foldR (fun (s4 : List Row) (x7 : Int) => ((m_Chip_read c x7).bind fun r9 => oC r9 (.ok s4) (fun y11 => (m_stamp_of y11.a).bind fun r13 => (m_name_of y11.a).bind fun r15 => (appL s4 ((T4.mk r13 x7 r15 y11.b))).bind fun x18 => .ok x18) : Res Empty _)) [] (rangeL 0 (c.stuff.length : Int))) (fun s => s = rowsOf c) := by
    refine is_mono (foldR_all (fun pre s => s = pre.filterMap (rowAt c)) rfl fun pre x post s e hsx => ?_) fun s h => h
    have hx : x ∈ rangeL 0 (c.stuff.length : Int) := by rw [e]; simp
    have hx2 := mem_rangeL.mp hx
    obtain ⟨o, ho⟩ := stuff_at h hx2
    have hpl : pre.length ≤ 28 := by
      have := congrArg List.length e
      rw [rangeL_len, List.length_append] at this
      omega
    have hsl : s.length ≤ 28 := by rw [hsx]; exact Nat.le_trans (List.length_filterMap_le _ _) hpl
    rw [read_ok q.left hx2.1 ho, Res.bind_ok, List.filterMap_append, ← hsx]
    cases o with
    | none => exact is_ok (by simp [rowAt, ho])
    | some t =>
      simp only [oC, m_stamp_of, m_name_of, Res.bind_ok]
      rw [appL_ok (by omega), Res.bind_ok]
      refine is_ok ?_
      have e2 : rowAt c x = some ⟨t.a / 128, x, t.a % 128, t.b⟩ := by unfold rowAt; rw [ho]
      simp only [List.filterMap_cons, e2, List.filterMap_nil]
      rw [and_127]; rfl
  obtain ⟨s, e, rfl⟩ := key
  rw [e, Res.then_ok]
  unfold sortT_
  rw [guard_ok ⟨by have := rows_len h; omega, rows_all h⟩]; rfl
end Wn
namespace Wn
open PySem L2
/-! ### books -/
structure BkOk (B P : Int) (b : BookM) : Prop where
  bd : 2 ≤ B ∧ B ≤ 16 ∧ 1 ≤ P ∧ P ≤ 16
  pages : b.pages = P
  names : (b.names.length : Int) = B * P
  live : (b.live.length : Int) = B
  filled : (b.filled.length : Int) = B
  born : (b.born.length : Int) = B
  vals : ∀ n p, dLook b.whr n = some p → 0 ≤ p ∧ p < B * P
  keys : (b.whr.map (·.1)).Nodup
theorem div_lt {B P p : Int} (hP : 1 ≤ P) (h0 : 0 ≤ p) (h : p < B * P) : 0 ≤ p / P ∧ p / P < B := ⟨Int.ediv_nonneg h0 (by omega), Int.ediv_lt_of_lt_mul (by omega) h⟩
theorem forget_is {B P : Int} {b : BookM} (k : BkOk B P b) (n : Int) : Is (m_Book_forget b n) fun d => BkOk B P d ∧ (∀ m, dLook d.whr m = if m = n then none else dLook b.whr m) ∧ d.whr.length ≤ b.whr.length ∧ d.stamp = b.stamp ∧ d.filled = b.filled ∧ d.blocks = b.blocks := by
  obtain ⟨⟨k1, k2, k3, k4⟩, k5, k6, k7, k8, k9, k10, k11⟩ := id k
  unfold m_Book_forget
  cases e : dLook b.whr n with
  | none =>
    refine is_ok ⟨k, fun m => ?_, Nat.le_refl _, rfl, rfl, rfl⟩
    split
    · rename_i h; rw [h, e]
    · rfl
  | some p =>
    obtain ⟨h0, h1⟩ := k10 n p e
    obtain ⟨h2, h3⟩ := div_lt k3 h0 h1
    obtain ⟨lv, hlv⟩ := getEx (l := b.live) (i := (p / P).toNat) (by omega)
    rw [Option.isSome_some, cond_true, getD_ok e, Res.bind_ok, setL_ok h0 (by show p < ((b.names.length : Nat) : Int); omega), Res.bind_ok]
    show Is (Res.bind (divI p b.pages) _) _
    rw [k5, divI_ok (by omega) (by omega), Res.bind_ok, augL_ok h2 hlv, Res.bind_ok]
    refine is_ok ⟨⟨⟨k1, k2, k3, k4⟩, rfl, ?_, ?_, k8, k9, fun m q hq => ?_, dDrop_keys k11⟩, fun m => dLook_drop, dDrop_len, rfl, rfl, rfl⟩
    · show (((b.names.set _ _).length : Nat) : Int) = _
      rw [List.length_set]; exact k6
    · show (((b.live.set _ _).length : Nat) : Int) = _
      rw [List.length_set]; exact k7
    · have hq : dLook (dDrop b.whr n) m = some q := hq
      rw [dLook_drop] at hq
      split at hq
      · cases hq
      · exact k10 m q hq
theorem note_is {B P : Int} {b : BookM} (k : BkOk B P b) {p n : Int} (h0 : 0 ≤ p) (h1 : p < B * P) (hl : b.whr.length < 100000) : Is (m_Book_note b p n) fun d => BkOk B P d ∧ (∀ m, dLook d.whr m = if m = n then some p else dLook b.whr m) ∧ d.whr.length ≤ b.whr.length + 1 ∧ d.stamp = b.stamp + 1 := by
  unfold m_Book_note
  refine is_bind (forget_is k n) fun d hd => ?_
  obtain ⟨⟨⟨k1, k2, k3, k4⟩, k5, k6, k7, k8, k9, k10, k11⟩, hlook, hlen, hst, _, _⟩ := hd
  obtain ⟨h2, h3⟩ := div_lt k3 h0 h1
  obtain ⟨fl, hfl⟩ := getEx (l := d.filled) (i := (p / P).toNat) (by omega)
  obtain ⟨lv, hlv⟩ := getEx (l := d.live) (i := (p / P).toNat) (by omega)
  rw [k5, divI_ok (by omega) (by omega), Res.bind_ok, ixL_ok h2 hfl, Res.bind_ok]
  refine is_then (P := fun e : BookM => e.filled = d.filled ∧ e.live = d.live ∧ e.names = d.names ∧ e.whr = d.whr ∧ e.stamp = d.stamp ∧ e.pages = P ∧ (e.born.length : Int) = B) (is_cond (fun _ => ?_) fun _ => is_ok ⟨rfl, rfl, rfl, rfl, rfl, k5, k9⟩) fun e he => ?_
  · rw [setL_ok h2 (by omega), Res.bind_ok]
    refine is_ok ⟨rfl, rfl, rfl, rfl, rfl, rfl, ?_⟩
    show (((d.born.set _ _).length : Nat) : Int) = _
    rw [List.length_set]; exact k9
  · obtain ⟨e1, e2, e3, e4, e5, e6, e7⟩ := he
    rw [e1, augL_ok h2 hfl, Res.bind_ok]
    show Is (Res.bind (augL e.live _ _) _) _
    rw [e2, augL_ok h2 hlv, Res.bind_ok]
    show Is (Res.bind (setL e.names _ _) _) _
    rw [e3, setL_ok h0 (by omega), Res.bind_ok]
    show Is (Res.bind (putD_ e.whr _ _) _) _
    rw [e4, putD_ok (by omega), Res.bind_ok]
    have hput : ∀ m, dLook (dPut d.whr n p) m = if m = n then some p else dLook b.whr m := fun m => by
      rw [dLook_put, hlook]
      split
      · rfl
      · rename_i h; rfl
    refine is_ok ⟨⟨⟨k1, k2, k3, k4⟩, e6, ?_, ?_, ?_, e7, fun m q hq => ?_, dPut_keys k11⟩, hput, ?_, ?_⟩
    · show (((d.names.set _ _).length : Nat) : Int) = _
      rw [List.length_set]; exact k6
    · show (((d.live.set _ _).length : Nat) : Int) = _
      rw [List.length_set]; exact k7
    · show (((d.filled.set _ _).length : Nat) : Int) = _
      rw [List.length_set]; exact k8
    · have hq : dLook (dPut d.whr n p) m = some q := hq
      rw [dLook_put] at hq
      split at hq
      · cases hq; exact ⟨h0, h1⟩
      · exact k10 m q hq
    · show (dPut d.whr n p).length ≤ _
      have := dPut_len (l := d.whr) (k := n) (x := p)
      omega
    · show e.stamp + 1 = _
      rw [e5, hst]
theorem book_new {B P : Int} (h1 : 2 ≤ B ∧ B ≤ 16) (h2 : 1 ≤ P ∧ P ≤ 16) : Is (m_Book___init__ B P) fun b => BkOk B P b ∧ b.whr = [] ∧ b.blocks = B ∧ b.stamp = 1 ∧ b.filled = List.replicate B.toNat 0 ∧ b.live = List.replicate B.toNat 0 ∧ b.born = List.replicate B.toNat 0 ∧ b.names = List.replicate (B * P).toNat none := by
  have hm := mul_bd (a := B) (b := P) (x := 16) (y := 16) (by omega) h1.2 (by omega) h2.2
  unfold m_Book___init__
  rw [mulI_ok (.inl (by omega)), Res.bind_ok, repL_one (by omega) (by omega), Res.bind_ok, repL_one (by omega) (by omega), Res.bind_ok, Res.bind_ok, Res.bind_ok]
  refine is_ok ⟨⟨⟨h1.1, h1.2, h2.1, h2.2⟩, rfl, ?_, ?_, ?_, ?_, (fun n p h => by cases h), List.nodup_nil⟩, rfl, rfl, rfl, rfl, rfl, rfl, rfl⟩
  · show (((List.replicate (B * P).toNat _).length : Nat) : Int) = _
    rw [List.length_replicate]; omega
  all_goals
    show (((List.replicate B.toNat _).length : Nat) : Int) = _
    rw [List.length_replicate]; omega
theorem held_ok {b : BookM} (h : b.whr.length ≤ 100000) : m_Book_held b = .ok (sortI ((b.whr.map (·.1)).filter fun n => !decide (n = 64))) := by
  unfold m_Book_held
  rw [lcR_ok (g := fun n => if n = 64 then none else some n) (fun x _ => by by_cases hx : x = 64 <;> simp [hx]) (by rw [List.length_map]; unfold few; simp; omega), Res.then_ok, List.nil_append]
  congr 2
  induction b.whr.map (·.1) with
  | nil => rfl
  | cons x l ih =>
    by_cases hx : x = 64
    · simp [hx] at ih ⊢; exact ih
    · simp [hx] at ih ⊢; exact ih
/-! ### sheets of bits -/
def sheetsFb (s2 : Int × Int × (List Int)) : Res Empty (Ctl (Int × Int × (List Int)) (List Int)) := cond ((decide ((0 : Int) < s2.1))) ((cond ((decide ((Builtin.bitAnd s2.1 ((1 : Int))) = (1 : Int)))) ((appL s2.2.2 s2.2.1).bind fun x4 => .ok x4) (.ok s2.2.2) : Res Empty ((List Int))).then_ fun s3 => .ok (.nx ((s2.1 / 2 ^ ((1 : Int) : Int).toNat), (s2.2.1 + (1 : Int)), s3))) (.ok (.bk (s2.1, s2.2.1, s2.2.2)))
theorem sheets_loop {v : Int} (hv : 0 ≤ v) : ∀ (j fuel : Nat) (k : Nat) (found : List Int), v / 2 ^ k < 2 ^ j → j < fuel → found.length ≤ k → k + j ≤ 1000 →
    Is (whileR sheetsFb fuel (v / 2 ^ k, (k : Int), found)) fun c => ∃ s, c = .nx s ∧ ∀ n : Int, n ∈ s.2.2 ↔ n ∈ found ∨ ((k : Int) ≤ n ∧ v / 2 ^ n.toNat % 2 = 1)
  | j, 0, _, _, _, h, _, _ => by omega
  | j, fuel + 1, k, found, hb, hf, hl, hk => by
    have hp : (0 : Int) < 2 ^ k := Int.pow_pos (by decide)
    have h0 : 0 ≤ v / 2 ^ k := Int.ediv_nonneg hv (by omega)
    have hdiv : ∀ m : Nat, v / 2 ^ (k + m) = v / 2 ^ k / 2 ^ m := fun m => by
      rw [Int.pow_add, Int.ediv_ediv_of_nonneg (by omega)]
    show Is ((sheetsFb _).then_ _) _
    by_cases hz : 0 < v / 2 ^ k
    · have e2 : (2 : Int) ^ ((1 : Int) : Int).toNat = 2 := by decide
      have hj : 0 < j := by
        rcases Nat.eq_zero_or_pos j with z | z
        · subst z; simp at hb; omega
        · exact z
      have hdiv1 : v / 2 ^ k / 2 = v / 2 ^ (k + 1) := by rw [hdiv 1]; rfl
      have hb2 : v / 2 ^ (k + 1) < 2 ^ (j - 1) := by
        rw [← hdiv1]
        have : (2 : Int) ^ j = 2 ^ (j - 1) * 2 := by rw [← Int.pow_succ]; congr 1; omega
        omega
      have step : ∀ found', found'.length ≤ k + 1 → (∀ n : Int, n ∈ found' ↔ n ∈ found ∨ (n = k ∧ v / 2 ^ k % 2 = 1)) →
          Is (whileR sheetsFb fuel (v / 2 ^ (k + 1), ((k + 1 : Nat) : Int), found')) fun c => ∃ s, c = .nx s ∧ ∀ n : Int, n ∈ s.2.2 ↔ n ∈ found ∨ ((k : Int) ≤ n ∧ v / 2 ^ n.toNat % 2 = 1) := fun found' hl' hm => by
        refine is_mono (sheets_loop hv (j - 1) fuel (k + 1) found' hb2 (by omega) hl' (by omega)) fun c hc => ?_
        obtain ⟨s, rfl, h⟩ := hc
        refine ⟨s, rfl, fun n => ?_⟩
        rw [h, hm]
        constructor
        · rintro ((h | ⟨rfl, h⟩) | ⟨h1, h2⟩)
          · exact .inl h
          · exact .inr ⟨Int.le_refl _, by rw [Int.toNat_natCast]; exact h⟩
          · exact .inr ⟨by omega, h2⟩
        · rintro (h | ⟨h1, h2⟩)
          · exact .inl (.inl h)
          · by_cases z : n = k
            · subst z
              rw [Int.toNat_natCast] at h2
              exact .inl (.inr ⟨rfl, h2⟩)
            · exact .inr ⟨by omega, h2⟩
      unfold sheetsFb
      rw [decide_eq_true hz, cond_true, and_1]
      by_cases ho : v / 2 ^ k % 2 = 1
      · rw [decide_eq_true ho, cond_true, appL_ok (by show found.length < _; omega)]
        simp only [Res.bind_ok, Res.then_ok]
        rw [e2, hdiv1]
        refine step (found ++ [(k : Int)]) (by rw [List.length_append]; simp; omega) fun n => ?_
        simp [ho]
      · rw [decide_eq_false ho, cond_false]
        simp only [Res.then_ok]
        rw [e2, hdiv1]
        exact step found (by omega) fun n => by simp [ho]
    · have hz0 : v / 2 ^ k = 0 := by omega
      unfold sheetsFb
      rw [decide_eq_false hz, cond_false, Res.then_ok]
      refine is_ok ⟨_, rfl, fun n => ?_⟩
      constructor
      · exact .inl
      · rintro (h | ⟨h1, h2⟩)
        · exact h
        · exfalso
          have e : n.toNat = k + (n.toNat - k) := by omega
          rw [e, hdiv, hz0] at h2
          simp at h2
theorem sheets_is {v : Int} (h0 : 0 ≤ v) (h1 : v < 2 ^ 64) : Is (m_sheets_of v) fun l => ∀ n : Int, n ∈ l ↔ 0 ≤ n ∧ v / 2 ^ n.toNat % 2 = 1 := by
  have := sheets_loop h0 64 few 0 [] (by simpa using h1) (by decide) (Nat.le_refl _) (by decide)
  obtain ⟨c, e, s, rfl, h⟩ := this
  unfold m_sheets_of
  have e0 : v / 2 ^ 0 = v := by simp
  rw [e0] at e
  have e : whileR sheetsFb few (v, 0, []) = .ok (.nx s) := e
  refine ⟨s.2.2, ?_, fun n => by rw [h]; simp⟩
  show ((whileR sheetsFb few (v, 0, [])).then_ fun c => ctl c (fun s2 => .ok s2.2.2) (fun r => .ok r)) = _
  rw [e]; rfl
end Wn
namespace Wn
open PySem L2
/-- the last row of a name -/
def lastN (S : List Row) (n : Int) : Option Row := (S.filter fun x => decide (x.c = n)).getLast?
theorem lastN_nil {n : Int} : lastN [] n = none := rfl
theorem lastN_snoc {S : List Row} {x : Row} {n : Int} : lastN (S ++ [x]) n = if x.c = n then some x else lastN S n := by
  unfold lastN
  rw [List.filter_append]
  by_cases h : x.c = n
  · simp [h]
  · simp [h]
theorem lastN_mem {S : List Row} {x : Row} {n : Int} (h : lastN S n = some x) : x ∈ S ∧ x.c = n := by
  have := List.mem_filter.mp (List.mem_of_getLast? h)
  simpa using this
theorem lastN_some {S : List Row} {x : Row} (h : x ∈ S) : ∃ y, lastN S x.c = some y := by
  cases e : lastN S x.c with
  | some y => exact ⟨y, rfl⟩
  | none =>
    exfalso
    have : S.filter (fun z => decide (z.c = x.c)) = [] := List.getLast?_eq_none_iff.mp e
    have h2 : x ∈ S.filter (fun z => decide (z.c = x.c)) := List.mem_filter.mpr ⟨h, by simp⟩
    rw [this] at h2; cases h2
/-- a rising list's last of a name is the latest -/
theorem lastN_max {S : List Row} (hs : S.Pairwise fun x y => x.a < y.a) {x y : Row} {n : Int} (h : lastN S n = some x) (hy : y ∈ S) (hn : y.c = n) : y.a ≤ x.a := by
  unfold lastN at h
  have hf : (S.filter fun x => decide (x.c = n)).Pairwise fun x y => x.a < y.a := hs.filter _
  have hy2 : y ∈ S.filter fun x => decide (x.c = n) := List.mem_filter.mpr ⟨hy, by simp [hn]⟩
  obtain ⟨l, e⟩ := List.getLast?_eq_some_iff.mp h
  rw [e] at hf hy2
  rcases List.mem_append.mp hy2 with h1 | h1
  · exact Int.le_of_lt ((List.pairwise_append.mp hf).2.2 y h1 x (by simp))
  · simp at h1; rw [h1]; exact Int.le_refl _
def rollA (S : List Row) : Int := match lastN S 64 with
  | none => 0
  | some x => x.a
def rollD (S : List Row) : Int := match lastN S 64 with
  | none => 0
  | some x => x.d
theorem roll_m (S : List Row) : m_stamp_of_roll S = .ok (rollA S) := by
  unfold m_stamp_of_roll
  obtain ⟨s, e, h⟩ := foldR_all (fb := fun (s1 : Int) (x6 : Row) => (cond ((decide (x6.c = (64 : Int)))) (.ok x6.a) (.ok s1) : Res Empty _)) (fun pre s => s = rollA pre) (xs := S) (s := 0) rfl fun p x q s _ h => by
    unfold rollA
    rw [lastN_snoc]
    by_cases hx : x.c = 64
    · rw [decide_eq_true hx, if_pos hx]; exact is_ok rfl
    · rw [decide_eq_false hx, if_neg hx]; exact is_ok h
  have e : foldR (fun (s1 : Int) (x6 : Row) => (cond ((decide (x6.c = (64 : Int)))) (.ok x6.a) (.ok s1) : Res Empty _)) 0 S = .ok s := e
  show (foldR _ _ _).then_ _ = _
  rw [e, Res.then_ok, h]
/-- what is told of a name after the rows so far: its last page, unless the last roll of all, met by then, has given it up -/
def liveB (S pre : List Row) (n : Int) : Option Int := (lastN pre n).bind fun x => if (∃ y ∈ pre, y.a = rollA S) → (rollA S < x.a ∨ (0 ≤ n ∧ rollD S / 2 ^ n.toNat % 2 = 1)) then some x.b else none
def liveF (S : List Row) (n : Int) : Option (T2 Int Int) := if n = 64 then none else (lastN S n).bind fun x => if rollA S < x.a ∨ rollD S / 2 ^ n.toNat % 2 = 1 then some ⟨x.b, x.d⟩ else none
theorem drops_is {B P : Int} {kept : List Int} : ∀ {hs : List Int} {b : BookM}, BkOk B P b → Is (foldR (fun (s27 : BookM) (x29 : Int) => (cond ((!decide (x29 ∈ kept))) ((m_Book_forget s27 x29).bind fun r31 => .ok r31) (.ok s27) : Res Empty _)) b hs) fun d => BkOk B P d ∧ (∀ m, dLook d.whr m = if m ∈ hs ∧ m ∉ kept then none else dLook b.whr m) ∧ d.whr.length ≤ b.whr.length
  | [], b, k => is_ok ⟨k, fun m => by simp, Nat.le_refl _⟩
  | x :: hs, b, k => by
    refine is_then (P := fun d => BkOk B P d ∧ (∀ m, dLook d.whr m = if m = x ∧ m ∉ kept then none else dLook b.whr m) ∧ d.whr.length ≤ b.whr.length) ?_ fun d hd => ?_
    · refine is_cond (fun h => is_bind (forget_is k x) fun d hd => is_ok ⟨hd.1, fun m => ?_, hd.2.2.1⟩) fun h => is_ok ⟨k, fun m => ?_, Nat.le_refl _⟩
      · have h : x ∉ kept := by simpa using h
        rw [hd.2.1]
        by_cases z : m = x
        · subst z; simp [h]
        · simp [z]
      · have h : x ∈ kept := by simpa using h
        by_cases z : m = x
        · subst z; simp [h]
        · simp [z]
    · refine is_mono (drops_is hd.1) fun e he => ⟨he.1, fun m => ?_, Nat.le_trans he.2.2 hd.2.2⟩
      rw [he.2.1, hd.2.1]
      by_cases h1 : m ∈ kept
      · simp [h1]
      · by_cases h2 : m = x
        · subst h2; simp [h1]
        · by_cases h3 : m ∈ hs <;> simp [h1, h2, h3]
theorem book_is {c : ChipM} (h : Chp c) : Is (m_book_of c) fun b => BkOk c.blocks c.pages b ∧ (∀ n, n ≠ 64 → dLook b.whr n = liveB (srt c) (srt c) n) ∧ b.whr.length ≤ 100 := by
  have q := h.q
  have hlen := rows_len h
  have hsz := h.size
  have hst := q.stuff
  have hS := srt_lt h
  unfold m_book_of
  refine is_bind (book_new q.b q.p) fun b0 hb0 => ?_
  rw [rows_m h, Res.bind_ok, roll_m, Res.bind_ok]
  generalize hSe : srt c = S at *
  have hmem : ∀ x ∈ S, RowOk x ∧ x.b < c.blocks * c.pages := fun x hx => by
    rw [← hSe] at hx
    obtain ⟨r, t, ht, _⟩ := row_ok h (srt_mem.mp hx)
    have := (List.getElem?_eq_some_iff.mp ht).1
    have := r.b
    exact ⟨r, by omega⟩
  have hlS : S.length ≤ 28 := by rw [← hSe, srt_len]; exact hlen
  refine is_then (foldR_all (fun pre (b : BookM) => BkOk c.blocks c.pages b ∧ (∀ n, n ≠ 64 → dLook b.whr n = liveB S pre n) ∧ b.whr.length ≤ pre.length) ⟨hb0.1, fun n _ => by rw [hb0.2.1]; rfl, by rw [hb0.2.1]; exact Nat.zero_le _⟩ ?_) fun b hb => is_ok ⟨hb.1, hb.2.1, by omega⟩
  rintro pre x post b e ⟨kb, hb, hl⟩
  have hx : x ∈ S := by rw [e]; simp
  obtain ⟨rx, rb⟩ := hmem x hx
  have hpl : pre.length ≤ 28 := by have := congrArg List.length e; rw [List.length_append] at this; omega
  have hlt : ∀ y ∈ pre, y.a < x.a := fun y hy => by
    rw [e] at hS
    exact (List.pairwise_append.mp hS).2.2 y hy x (by simp)
  unfold m_Book_start_at
  rw [Res.bind_ok]
  have kb1 : BkOk c.blocks c.pages { b with stamp := x.a } := ⟨kb.1, kb.2, kb.3, kb.4, kb.5, kb.6, kb.7, kb.8⟩
  refine is_bind (note_is kb1 (n := x.c) rx.b.1 rb (by show b.whr.length < _; omega)) fun d hd => ?_
  obtain ⟨kd, hd, hdl, _⟩ := hd
  have hd : ∀ m, dLook d.whr m = if m = x.c then some x.b else dLook b.whr m := hd
  have hdl : d.whr.length ≤ b.whr.length + 1 := hdl
  have hap : (pre ++ [x]).length = pre.length + 1 := by simp
  -- where the last roll stands
  have hroll : rollA S = 0 ∨ ∃ r, lastN S 64 = some r ∧ r ∈ S ∧ r.c = 64 ∧ rollA S = r.a ∧ rollD S = r.d := by
    unfold rollA rollD
    cases e2 : lastN S 64 with
    | none => exact .inl rfl
    | some r => exact .inr ⟨r, rfl, (lastN_mem e2).1, (lastN_mem e2).2, rfl, rfl⟩
  have uniq : ∀ y ∈ S, ∀ z ∈ S, y.a = z.a → y = z := fun y hy z hz ea => by
    have := hS
    rcases Classical.em (y = z) with q | q
    · exact q
    · exfalso
      have hp : S.Pairwise (fun x y : Row => x.a ≠ y.a) := hS.imp fun h => Int.ne_of_lt h
      have hh : ∀ (l : List Row), l.Pairwise (fun x y : Row => x.a ≠ y.a) → y ∈ l → z ∈ l → False := by
        intro l hl
        induction l with
        | nil => intro h1; cases h1
        | cons w l ih =>
          obtain ⟨h1, h2⟩ := List.pairwise_cons.mp hl
          intro m1 m2
          rcases List.mem_cons.mp m1 with n1 | n1
          · rcases List.mem_cons.mp m2 with n2 | n2
            · exact q (n1.trans n2.symm)
            · exact h1 z n2 (by rw [← n1]; exact ea)
          · rcases List.mem_cons.mp m2 with n2 | n2
            · exact h1 y n1 (by rw [← n2]; exact ea.symm)
            · exact ih h2 n1 n2
      exact hh S hp hy hz
  by_cases ht : x.a = rollA S
  · -- the roll itself
    rw [decide_eq_true ht, cond_true]
    obtain ⟨r, _, hr1, hr2, hr3, hr4⟩ : ∃ r, lastN S 64 = some r ∧ r ∈ S ∧ r.c = 64 ∧ rollA S = r.a ∧ rollD S = r.d := by
      rcases hroll with z | z
      · have := rx.a; omega
      · exact z
    have exr : x = r := uniq x hx r hr1 (by omega)
    subst exr
    refine is_bind (sheets_is rx.d.1 rx.d.2) fun kept hk => ?_
    rw [held_ok (by omega), Res.bind_ok]
    refine is_then (drops_is kd) fun f hf => is_ok ⟨hf.1, fun n hn => ?_, by rw [hap]; omega⟩
    rw [hf.2.1, hd]
    have hn2 : ¬ n = x.c := by rw [hr2]; exact hn
    rw [if_neg hn2]
    have hin : n ∈ sortI ((d.whr.map (·.1)).filter fun n => !decide (n = 64)) ↔ (dLook b.whr n).isSome = true := by
      rw [mem_sortI, List.mem_filter, dLook_key, hd, if_neg hn2]
      simp [hn]
    simp only [hin]
    rw [hb n hn]
    unfold liveB
    rw [lastN_snoc, if_neg (show ¬ x.c = n from fun z => hn2 z.symm)]
    have hpast : ¬ ∃ y ∈ pre, y.a = rollA S := fun ⟨y, hy, ey⟩ => by have := hlt y hy; omega
    have hnow : ∃ y ∈ pre ++ [x], y.a = rollA S := ⟨x, by simp, ht⟩
    cases e3 : lastN pre n with
    | none => simp
    | some z =>
      have hz := hlt z (lastN_mem e3).1
      have hz2 : ¬ rollA S < z.a := by omega
      simp only [Option.bind_some, hpast, false_implies, if_true, Option.isSome_some, true_and, hnow, true_implies, hz2, false_or]
      rw [hr4]
      by_cases hc : n ∈ kept
      · rw [if_neg (fun z => z hc), if_pos ((hk n).mp hc)]
      · rw [if_pos hc, if_neg (fun z => hc ((hk n).mpr z))]
  · rw [decide_eq_false ht, cond_false]
    refine is_ok ⟨kd, fun n hn => ?_, by rw [hap]; omega⟩
    rw [hd]
    have hsame : (∃ y ∈ pre ++ [x], y.a = rollA S) ↔ ∃ y ∈ pre, y.a = rollA S := by
      constructor
      · rintro ⟨y, hy, ey⟩
        rcases List.mem_append.mp hy with h1 | h1
        · exact ⟨y, h1, ey⟩
        · simp at h1; subst h1; exact absurd ey ht
      · rintro ⟨y, hy, ey⟩
        exact ⟨y, List.mem_append.mpr (.inl hy), ey⟩
    unfold liveB
    rw [lastN_snoc]
    by_cases hnx : n = x.c
    · rw [if_pos hnx, if_pos hnx.symm, Option.bind_some]
      rw [if_pos]
      intro hh
      obtain ⟨y, hy, ey⟩ := hsame.mp hh
      have := hlt y hy
      exact .inl (by omega)
    · rw [if_neg hnx, if_neg (show ¬ x.c = n from fun z => hnx z.symm), hb n hn]
      unfold liveB
      simp only [hsame]
end Wn
namespace Wn
open PySem L2
theorem sw_sw (x : Row) : sw (sw x) = x := rfl
theorem newest_is {c : ChipM} (h : Chp c) : Is (m__law_newest c (c.stuff.length : Int)) fun r => r.b = ⟨rollA (srt c), rollD (srt c)⟩ ∧ (∀ n, dLook r.a n = if n = 64 then none else (lastN (srt c) n).map fun x => (⟨x.a, x.b, x.d⟩ : T3 Int Int Int)) ∧ (r.a.map (·.1)).Nodup ∧ r.a.length ≤ 28 := by
  have hsz := h.size
  have hlen := rows_len h
  have q := h.q
  unfold m__law_newest
  rw [rng1_ok (by omega) (by omega), Res.bind_ok]
  refine is_then (P := fun s => s = (rowsOf c).map sw) ?_ fun s hs => ?_
  · refine is_mono (foldR_all (fun pre s => s = (pre.filterMap (rowAt c)).map sw) rfl fun pre x post s e hsx => ?_) fun s h => h
    have hx : x ∈ rangeL 0 (c.stuff.length : Int) := by rw [e]; simp
    have hx2 := mem_rangeL.mp hx
    obtain ⟨o, ho⟩ := stuff_at h hx2
    have hpl : pre.length ≤ 28 := by
      have := congrArg List.length e
      rw [rangeL_len, List.length_append] at this
      omega
    have hsl : s.length ≤ 28 := by rw [hsx, List.length_map]; exact Nat.le_trans (List.length_filterMap_le _ _) hpl
    rw [read_ok q.left hx2.1 ho, Res.bind_ok, List.filterMap_append, List.map_append, ← hsx]
    cases o with
    | none => exact is_ok (by simp [rowAt, ho])
    | some t =>
      simp only [oC]
      rw [appL_ok (by omega), Res.bind_ok]
      refine is_ok ?_
      have e2 : rowAt c x = some ⟨t.a / 128, x, t.a % 128, t.b⟩ := by unfold rowAt; rw [ho]
      simp only [List.filterMap_cons, e2, List.filterMap_nil, List.map_cons, List.map_nil]
      rw [and_127]; rfl
  · subst hs
    unfold sortT_
    rw [guard_ok ⟨by rw [List.length_map]; omega, by rw [List.all_map]; exact List.all_eq_true.mpr fun x hx => (row_ok h hx).1.sw⟩, Res.bind_ok, srt_sw h]
    have hSl : (srt c).length ≤ 28 := by rw [srt_len]; exact hlen
    generalize srt c = S at *
    refine is_then (foldR_all (fun (pre : List Row) (st : T2 Int Int × List (Int × T3 Int Int Int)) => st.1 = ⟨rollA (pre.map sw), rollD (pre.map sw)⟩ ∧ (∀ n, dLook st.2 n = if n = 64 then none else (lastN (pre.map sw) n).map fun x => (⟨x.a, x.b, x.d⟩ : T3 Int Int Int)) ∧ (st.2.map (·.1)).Nodup ∧ st.2.length ≤ pre.length) ⟨rfl, fun n => by split <;> rfl, List.nodup_nil, Nat.le_refl _⟩ ?_) fun st hst => ?_
    · rintro pre x post ⟨r, d⟩ e ⟨h1, h2, h3, h4⟩
      have hpl : pre.length ≤ 28 := by
        have := congrArg List.length e
        rw [List.length_map, List.length_append] at this
        omega
      have h1 : r = ⟨rollA (pre.map sw), rollD (pre.map sw)⟩ := h1
      have h2 : ∀ n, dLook d n = if n = 64 then none else (lastN (pre.map sw) n).map fun x => (⟨x.a, x.b, x.d⟩ : T3 Int Int Int) := h2
      have h4 : d.length ≤ pre.length := h4
      have em : (pre ++ [x]).map sw = pre.map sw ++ [sw x] := by rw [List.map_append]; rfl
      rw [em]
      by_cases hx : x.b = 64
      · rw [decide_eq_true hx, cond_true]
        refine is_ok ⟨?_, fun n => ?_, h3, by rw [List.length_append]; show d.length ≤ _; omega⟩
        · unfold rollA rollD
          rw [lastN_snoc, if_pos (show (sw x).c = 64 from hx)]; rfl
        · show dLook d n = _
          rw [h2, lastN_snoc]
          by_cases hn : n = 64
          · rw [if_pos hn, if_pos hn]
          · rw [if_neg hn, if_neg hn, if_neg (show ¬ (sw x).c = n from fun z => hn (by rw [← z]; exact hx))]
      · rw [decide_eq_false hx, cond_false, putD_ok (by omega), Res.bind_ok]
        refine is_ok ⟨?_, fun n => ?_, dPut_keys h3, ?_⟩
        · show r = _
          rw [h1]
          unfold rollA rollD
          rw [lastN_snoc, if_neg (show ¬ (sw x).c = 64 from hx)]
        · show dLook (dPut d x.b _) n = _
          rw [dLook_put, h2, lastN_snoc]
          by_cases hn : n = x.b
          · rw [if_pos hn, if_neg (show ¬ n = 64 from fun z => hx (by rw [← hn, z])), if_pos (show (sw x).c = n from hn.symm)]; rfl
          · rw [if_neg hn, if_neg (show ¬ (sw x).c = n from fun z => hn z.symm)]
        · rw [List.length_append]
          have := dPut_len (l := d) (k := x.b) (x := (⟨x.a, x.c, x.d⟩ : T3 Int Int Int))
          show (dPut d x.b _).length ≤ _
          simp
          omega
    · obtain ⟨h1, h2, h3, h4⟩ := hst
      have em : (S.map sw).map sw = S := by rw [List.map_map]; exact (List.map_congr_left fun x _ => sw_sw x).trans (List.map_id _)
      rw [em] at h1 h2
      rw [List.length_map] at h4
      exact is_ok ⟨h1, h2, h3, by show st.2.length ≤ 28; omega⟩
theorem found_is {c : ChipM} (h : Chp c) : Is (m__law_found c (c.stuff.length : Int)) fun f => (∀ n, dLook f n = liveF (srt c) n) ∧ (f.map (·.1)).Nodup ∧ f.length ≤ 28 := by
  unfold m__law_found
  refine is_bind (newest_is h) fun r hr => ?_
  obtain ⟨h1, h2, h3, h4⟩ := hr
  have hS : ∀ x ∈ srt c, RowOk x := fun x hx => (row_ok h (srt_mem.mp hx)).1
  generalize srt c = S at *
  unfold sortD_
  rw [guard_ok (by omega), Res.bind_ok]
  refine is_then (foldR_all (fun (pre : List Int) (s : List (Int × T2 Int Int)) => (∀ n, dLook s n = if n ∈ pre then liveF S n else none) ∧ (s.map (·.1)).Nodup ∧ s.length ≤ pre.length) ⟨fun n => rfl, List.nodup_nil, Nat.le_refl _⟩ ?_) fun s hs => ?_
  · rintro pre x post s e ⟨k1, k2, k3⟩
    have hpl : pre.length ≤ 28 := by
      have := congrArg List.length e
      rw [len_sortI, List.length_map, List.length_append] at this
      omega
    have hx : x ∈ sortI (r.a.map (·.1)) := by rw [e]; simp
    rw [mem_sortI, dLook_key, h2] at hx
    have hx64 : ¬ x = 64 := fun z => by rw [if_pos z] at hx; cases hx
    rw [if_neg hx64, Option.isSome_map] at hx
    obtain ⟨y, hy⟩ := Option.isSome_iff_exists.mp hx
    obtain ⟨hyS, hyx⟩ := lastN_mem hy
    have ry := hS y hyS
    have hx0 : 0 ≤ x := by rw [← hyx]; exact ry.c.1
    have eg : dLook r.a x = some ⟨y.a, y.b, y.d⟩ := by rw [h2, if_neg hx64, hy]; rfl
    rw [getD_ok eg, Res.bind_ok, h1]
    unfold shrI
    rw [guard_ok hx0]
    simp only [Res.bind_ok, orR_ok, Res.then_ok, and_1]
    have el : liveF S x = if rollA S < y.a ∨ rollD S / 2 ^ x.toNat % 2 = 1 then some ⟨y.b, y.d⟩ else none := by
      unfold liveF
      rw [if_neg hx64, hy, Option.bind_some]
    have hmem : ∀ n, n ∈ pre ++ [x] ↔ n ∈ pre ∨ n = x := fun n => by simp
    by_cases hc : rollA S < y.a ∨ rollD S / 2 ^ x.toNat % 2 = 1
    · rw [← Bool.decide_or, decide_eq_true hc, cond_true, putD_ok (by omega), Res.bind_ok]
      rw [if_pos hc] at el
      refine is_ok ⟨fun n => ?_, dPut_keys k2, ?_⟩
      · rw [dLook_put, k1]
        by_cases hn : n = x
        · subst hn; rw [if_pos rfl, if_pos ((hmem n).mpr (.inr rfl)), el]
        · rw [if_neg hn]
          by_cases hp : n ∈ pre
          · rw [if_pos hp, if_pos ((hmem n).mpr (.inl hp))]
          · rw [if_neg hp, if_neg fun z => (((hmem n).mp z).elim hp hn)]
      · rw [List.length_append]
        have := dPut_len (l := s) (k := x) (x := (⟨y.b, y.d⟩ : T2 Int Int))
        simp
        omega
    · rw [← Bool.decide_or, decide_eq_false hc, cond_false]
      rw [if_neg hc] at el
      refine is_ok ⟨fun n => ?_, k2, by rw [List.length_append]; omega⟩
      rw [k1]
      by_cases hp : n ∈ pre
      · rw [if_pos hp, if_pos ((hmem n).mpr (.inl hp))]
      · rw [if_neg hp]
        by_cases hn : n = x
        · subst hn; rw [if_pos ((hmem n).mpr (.inr rfl)), el]
        · rw [if_neg fun z => (((hmem n).mp z).elim hp hn)]
  · obtain ⟨k1, k2, k3⟩ := hs
    refine is_ok ⟨fun n => ?_, k2, by rw [len_sortI, List.length_map] at k3; omega⟩
    rw [k1]
    by_cases hn : n ∈ sortI (r.a.map (·.1))
    · rw [if_pos hn]
    · rw [if_neg hn]
      rw [mem_sortI, dLook_key, h2] at hn
      unfold liveF
      by_cases h64 : n = 64
      · rw [if_pos h64]
      · rw [if_neg h64, Option.isSome_map] at hn
        rw [if_neg h64]
        cases e : lastN S n with
        | none => rfl
        | some y => rw [e] at hn; exact absurd rfl hn
theorem live_eq {c : ChipM} (h : Chp c) {n : Int} (hn : n ≠ 64) : liveB (srt c) (srt c) n = (liveF (srt c) n).map (·.a) := by
  have hS : ∀ x ∈ srt c, RowOk x := fun x hx => (row_ok h (srt_mem.mp hx)).1
  generalize srt c = S at *
  unfold liveB liveF
  rw [if_neg hn]
  cases e : lastN S n with
  | none => rfl
  | some x =>
    obtain ⟨hx, hxn⟩ := lastN_mem e
    have rx := hS x hx
    have hn0 : 0 ≤ n := by rw [← hxn]; exact rx.c.1
    rw [Option.bind_some, Option.bind_some]
    cases er : lastN S 64 with
    | none =>
      have ea : rollA S = 0 := by unfold rollA; rw [er]
      have hno : ¬ ∃ y ∈ S, y.a = rollA S := fun ⟨y, hy, z⟩ => by have := (hS y hy).a; omega
      rw [if_pos (fun z => absurd z hno), if_pos (.inl (by have := rx.a; omega))]; rfl
    | some r =>
      have ea : rollA S = r.a := by unfold rollA; rw [er]
      have hyes : ∃ y ∈ S, y.a = rollA S := ⟨r, (lastN_mem er).1, ea.symm⟩
      by_cases hc : rollA S < x.a ∨ rollD S / 2 ^ n.toNat % 2 = 1
      · rw [if_pos fun _ => hc.imp_right fun z => ⟨hn0, z⟩, if_pos hc]; rfl
      · rw [if_neg (fun z => hc ((z hyes).imp_right fun w => w.2)), if_neg hc]; rfl
end Wn
namespace Wn
open PySem L2
abbrev Fnd := List (Int × T2 Int Int)
abbrev Pair := T2 Int Int
abbrev Rep := T3 Int Int Str
def sortOf (F : Fnd) (c : ChipM) (s p : Int) : Option Str :=
  if 0 ≤ p ∧ p < (c.stuff.length : Int) then
    match c.stuff[p.toNat]? with
    | some (some t) => if t.a % 128 = s then (match dLook F s with
      | none => some "gone"
      | some q => if q.a = p then none else some "old") else some "other"
    | _ => some "nothing"
  else some "nothing"
theorem fault_m {c : ChipM} (h : Chp c) {F : Fnd} {b : BookM} {s p : Int} (e : dLook b.whr s = (dLook F s).map (·.a)) : m_fault c b s p = .ok (sortOf F c s p) := by
  have hs := h.q.stuff
  have hz := h.size
  unfold m_fault sortOf
  rw [mulI_ok (.inl (by have := h.q.b; omega)), Res.bind_ok, within_ok, Res.bind_ok, ← hs]
  by_cases hp : 0 ≤ p ∧ p < (c.stuff.length : Int)
  · obtain ⟨o, ho⟩ := stuff_at h hp
    rw [if_pos hp, decide_eq_true hp.1, decide_eq_true (by omega : p ≤ (c.stuff.length : Int) - 1), Bool.and_self, Bool.not_true, cond_false, read_ok h.q.left hp.1 ho, Res.bind_ok, ho]
    cases o with
    | none => rfl
    | some t =>
      simp only [oC, m_name_of, Res.bind_ok, and_127]
      by_cases hn : t.a % 128 = s
      · rw [decide_eq_true hn, if_pos hn, Bool.not_true, cond_false, e]
        cases ef : dLook F s with
        | none => rfl
        | some q =>
          have eb : dLook b.whr s = some q.a := by rw [e, ef]; rfl
          rw [Option.map_some, Option.isSome_some, Bool.not_true, cond_false, getD_ok eb, Res.bind_ok]
          by_cases hq : q.a = p
          · simp [hq]
          · simp [hq]
      · rw [decide_eq_false hn, if_neg hn]; rfl
  · rw [if_neg hp]
    have : (decide (0 ≤ p) && decide (p ≤ (c.stuff.length : Int) - 1)) = false := by
      rw [← Bool.decide_and]; exact decide_eq_false (by omega)
    rw [this]; rfl
theorem sort_m {c : ChipM} (h : Chp c) {F : Fnd} {s p : Int} : m__law_sort c (c.stuff.length : Int) F s p = .ok ((sortOf F c s p).getD "") := by
  unfold m__law_sort sortOf
  by_cases hp : 0 ≤ p ∧ p < (c.stuff.length : Int)
  · obtain ⟨o, ho⟩ := stuff_at h hp
    rw [if_pos hp, decide_eq_true hp.1, decide_eq_true hp.2, read_ok h.q.left hp.1 ho, ho]
    simp only [Bool.and_self, Bool.not_true, Res.bind_ok, orR_ok, Res.then_ok, Bool.false_or]
    cases o with
    | none => rfl
    | some t =>
      simp only [Option.isNone_some, cond_false, Res.ofO, Res.bind_ok, and_127]
      by_cases hn : t.a % 128 = s
      · rw [decide_eq_true hn, if_pos hn, Bool.not_true, cond_false]
        cases ef : dLook F s with
        | none => rfl
        | some q =>
          rw [Option.isSome_some, Bool.not_true, cond_false, getD_ok ef, Res.bind_ok]
          by_cases hq : q.a = p
          · simp [hq]
          · simp [hq]
      · rw [decide_eq_false hn, if_neg hn]; rfl
  · rw [if_neg hp]
    have : (decide (0 ≤ p) && decide (p < (c.stuff.length : Int))) = false := by
      rw [← Bool.decide_and]; exact decide_eq_false (by omega)
    rw [this]; rfl
theorem sortOf_ne {F : Fnd} {c : ChipM} {s p : Int} {z : Str} (h : sortOf F c s p = some z) : z = "nothing" ∨ z = "other" ∨ z = "gone" ∨ z = "old" := by
  unfold sortOf at h
  split at h
  · split at h
    · split at h
      · split at h
        · cases h; simp
        · split at h
          · cases h
          · cases h; simp
      · cases h; simp
    · cases h; simp
  · cases h; simp
/-- the sort of a row, the names so far known -/
def effS (F : Fnd) (c : ChipM) (ks : List Int) (x : Pair) : Option Str := if x.a ∈ ks then some "twice" else sortOf F c x.a x.b
def dueStep (F : Fnd) (c : ChipM) (st : List Rep × List Int) (x : Pair) : List Rep × List Int := (st.1 ++ (effS F c st.2 x).toList.map (fun z => ⟨x.a, x.b, z⟩), st.2 ++ [x.a])
def dueAll (F : Fnd) (c : ChipM) (told : List Pair) : List Rep × List Int := told.foldl (dueStep F c) ([], [])
def pageOf (F : Fnd) (n : Int) : Int := ((dLook F n).map (·.a)).getD 0
def missStep (F : Fnd) (ks : List Int) (acc : List Rep) (n : Int) : List Rep := if n ∈ ks then acc else acc ++ [⟨n, pageOf F n, "missing"⟩]
def due (F : Fnd) (c : ChipM) (told : List Pair) : List Rep := (sortI (F.map (·.1))).foldl (missStep F (dueAll F c told).2) (dueAll F c told).1
theorem dueAll_snoc {F : Fnd} {c : ChipM} {l : List Pair} {x : Pair} : dueAll F c (l ++ [x]) = dueStep F c (dueAll F c l) x := by
  unfold dueAll; rw [List.foldl_append]; rfl
theorem dueAll_keys {F : Fnd} {c : ChipM} {l : List Pair} : (dueAll F c l).2 = l.map (·.a) := by
  have : ∀ (l : List Pair) st, (l.foldl (dueStep F c) st).2 = st.2 ++ l.map (·.a) := by
    intro l
    induction l with
    | nil => intro st; simp
    | cons x l ih => intro st; rw [List.foldl_cons, ih]; simp [dueStep]
  rw [dueAll, this]; rfl
theorem dueStep_len {F : Fnd} {c : ChipM} {st : List Rep × List Int} {x : Pair} : (dueStep F c st x).1.length ≤ st.1.length + 1 := by
  unfold dueStep
  rw [List.length_append, List.length_map]
  cases effS F c st.2 x <;> simp
/-- the strings that are told -/
def okStr (z : Str) : Prop := z = "nothing" ∨ z = "other" ∨ z = "gone" ∨ z = "old" ∨ z = "twice" ∨ z = "missing"
theorem effS_ok {F : Fnd} {c : ChipM} {ks : List Int} {x : Pair} {z : Str} (h : effS F c ks x = some z) : okStr z := by
  unfold effS at h
  split at h
  · cases h; unfold okStr; simp
  · rcases sortOf_ne h with h | h | h | h <;> subst h <;> unfold okStr <;> simp
theorem str_ne {z : Str} (h : okStr z) : (!decide (z = ("" : Str))) = true := by
  rcases h with h | h | h | h | h | h <;> subst h <;> decide +kernel
theorem missing_is {G : Int → Res Empty Int} {F : Fnd} {kn : Int → Bool} {ks : List Int} (hk : ∀ x, kn x = decide (x ∈ ks)) : ∀ {hs : List Int} {acc : List Rep}, (∀ n ∈ hs, G n = .ok (pageOf F n)) → acc.length + hs.length ≤ 100000 →
    foldR (fun (s23 : List Rep) (x27 : Int) => (cond ((!kn x27)) ((G x27).bind fun x29 => (appL s23 ((T3.mk x27 x29 (("missing" : Str))))).bind fun x31 => .ok x31) (.ok s23) : Res Empty _)) acc hs = .ok (hs.foldl (missStep F ks) acc)
  | [], acc, _, _ => rfl
  | n :: hs, acc, hg, hl => by
    rw [List.length_cons] at hl
    show (Res.then_ (cond (!kn n) _ _) _) = _
    rw [hk, List.foldl_cons]
    by_cases h : n ∈ ks
    · rw [decide_eq_true h, Bool.not_true, cond_false, Res.then_ok, missStep, if_pos h]
      exact missing_is hk (fun m hm => hg m (List.mem_cons_of_mem _ hm)) (by omega)
    · rw [decide_eq_false h, Bool.not_false, cond_true, hg n List.mem_cons_self, Res.bind_ok, appL_ok (by omega), Res.bind_ok, Res.then_ok, missStep, if_neg h]
      exact missing_is hk (fun m hm => hg m (List.mem_cons_of_mem _ hm)) (by rw [List.length_append]; simp; omega)
theorem faults_is {c : ChipM} (h : Chp c) {F : Fnd} (hF : ∀ n, dLook F n = liveF (srt c) n) (hFk : (F.map (·.1)).Nodup) (hFl : F.length ≤ 28) {told : List Pair} (ht : ∀ x ∈ told, x.a ≠ 64) (hl : told.length ≤ 1000) : m_faults c told = .ok (due F c told) := by
  unfold m_faults
  obtain ⟨b, eb, kb, hb, hbl⟩ := book_is h
  rw [eb, Res.bind_ok]
  have hlook : ∀ n, n ≠ 64 → dLook b.whr n = (dLook F n).map (·.a) := fun n hn => by rw [hb n hn, live_eq h hn, hF]
  obtain ⟨s, es, hs1, hs2, hs3⟩ := foldR_all (fb := fun (s6 : (List Rep) × (List (Int × Bool))) (x10 : Pair) => ((m_fault c b x10.a x10.b).bind fun r14 => (cond ((dLook s6.2 x10.a).isSome) (.ok (some (("twice" : Str)))) (.ok r14) : Res Empty ((Option Str))).then_ fun s15 => (oC s15 (.ok s6.1) (fun y17 => (appL s6.1 ((T3.mk x10.a x10.b y17))).bind fun x20 => .ok x20) : Res Empty ((List Rep))).then_ fun s16 => (putD_ s6.2 x10.a true).bind fun x18 => .ok (s16, x18) : Res Empty _))
    (fun pre (s : List Rep × List (Int × Bool)) => s.1 = (dueAll F c pre).1 ∧ (∀ n, (dLook s.2 n).isSome = decide (n ∈ pre.map (·.a))) ∧ s.2.length ≤ pre.length ∧ s.1.length ≤ pre.length) (xs := told) (s := ([], [])) ⟨rfl, fun n => rfl, Nat.le_refl _, Nat.le_refl _⟩ (by
      rintro pre x post ⟨rs, kn⟩ e ⟨k1, k2, k3, k4⟩
      have k1 : rs = (dueAll F c pre).1 := k1
      have k2 : ∀ n, (dLook kn n).isSome = decide (n ∈ pre.map (·.a)) := k2
      have k3 : kn.length ≤ pre.length := k3
      have k4 : rs.length ≤ pre.length := k4
      have hpl : pre.length ≤ 1000 := by have := congrArg List.length e; rw [List.length_append] at this; omega
      have hx : x ∈ told := by rw [e]; simp
      rw [fault_m h (hlook x.a (ht x hx)), Res.bind_ok, k2]
      have ee : (cond (decide (x.a ∈ pre.map (·.a))) (.ok (some (("twice" : Str)))) (.ok (sortOf F c x.a x.b)) : Res Empty (Option Str)) = .ok (effS F c (pre.map (·.a)) x) := by
        unfold effS
        by_cases hm : x.a ∈ pre.map (·.a)
        · rw [decide_eq_true hm, if_pos hm]; rfl
        · rw [decide_eq_false hm, if_neg hm]; rfl
      rw [ee, Res.then_ok]
      have hd : dueAll F c (pre ++ [x]) = dueStep F c (dueAll F c pre) x := dueAll_snoc
      have hkn : ∀ n, (dLook (dPut kn x.a true) n).isSome = decide (n ∈ (pre ++ [x]).map (·.a)) := fun n => by
        rw [dLook_put, List.map_append, List.map_cons, List.map_nil]
        by_cases hn : n = x.a
        · subst hn; simp
        · rw [if_neg hn, k2]; simp [hn]
      have hput := dPut_len (l := kn) (k := x.a) (x := true)
      have hap : (pre ++ [x]).length = pre.length + 1 := by simp
      cases ef : effS F c (pre.map (·.a)) x with
      | none =>
        simp only [oC, Res.then_ok]
        rw [putD_ok (by omega), Res.bind_ok]
        refine is_ok ⟨?_, hkn, by rw [hap]; show (dPut kn x.a true).length ≤ _; omega, by rw [hap]; show rs.length ≤ _; omega⟩
        show rs = _
        rw [hd, dueStep, dueAll_keys, ef, k1]; simp
      | some z =>
        simp only [oC]
        rw [appL_ok (by omega), Res.bind_ok, Res.then_ok, putD_ok (by omega), Res.bind_ok]
        refine is_ok ⟨?_, hkn, by rw [hap]; show (dPut kn x.a true).length ≤ _; omega, by rw [hap]; show (rs ++ _).length ≤ _; rw [List.length_append]; simp; omega⟩
        show rs ++ _ = _
        rw [hd, dueStep, dueAll_keys, ef, k1]; simp)
  rw [es, Res.then_ok, held_ok (by omega), Res.bind_ok]
  have hheld : sortI ((b.whr.map (·.1)).filter fun n => !decide (n = 64)) = sortI (F.map (·.1)) := by
    refine sortI_same (kb.keys.filter _) hFk fun n => ?_
    rw [List.mem_filter, dLook_key, dLook_key]
    by_cases hn : n = 64
    · subst hn
      rw [hF]; unfold liveF; simp
    · rw [hlook n hn, Option.isSome_map]; simp [hn]
  rw [hheld]
  have hmiss := missing_is (G := fun n => getD_ b.whr n) (F := F) (kn := fun n => (dLook s.2 n).isSome) (ks := told.map (·.a)) hs2 (hs := sortI (F.map (·.1))) (acc := s.1) (fun n hn => by
    rw [mem_sortI, dLook_key] at hn
    obtain ⟨q, hq⟩ := Option.isSome_iff_exists.mp hn
    have hn64 : n ≠ 64 := fun z => by rw [hF] at hq; unfold liveF at hq; rw [if_pos z] at hq; cases hq
    exact getD_ok (by rw [hlook n hn64, hq]; unfold pageOf; rw [hq]; rfl)) (by rw [len_sortI, List.length_map]; have := hs3.2; omega)
  rw [hmiss, Res.then_ok]
  unfold due
  rw [dueAll_keys, ← hs1]
theorem due_is {c : ChipM} (h : Chp c) {F : Fnd} (hFl : F.length ≤ 28) {told : List Pair} (hl : told.length ≤ 1000) : m__law_due c (c.stuff.length : Int) F told = .ok (due F c told) := by
  unfold m__law_due
  obtain ⟨s, es, hs1, hs2, hs3⟩ := foldR_all (fb := fun (s3 : (List (Int × Int)) × (List Rep)) (x7 : Pair) => ((m__law_sort c (c.stuff.length : Int) F x7.a x7.b).bind fun r11 => (cond ((dLook s3.1 x7.a).isSome) (.ok ("twice" : Str)) (.ok r11) : Res Empty (Str)).then_ fun s12 => (cond ((!decide (s12 = ("" : Str)))) ((appL s3.2 ((T3.mk x7.a x7.b s12))).bind fun x16 => .ok x16) (.ok s3.2) : Res Empty ((List Rep))).then_ fun s13 => (putD_ s3.1 x7.a x7.b).bind fun x14 => .ok (x14, s13) : Res Empty _))
    (fun pre (s : List (Int × Int) × List Rep) => s.2 = (dueAll F c pre).1 ∧ (∀ n, (dLook s.1 n).isSome = decide (n ∈ pre.map (·.a))) ∧ s.1.length ≤ pre.length ∧ s.2.length ≤ pre.length) (xs := told) (s := ([], [])) ⟨rfl, fun n => rfl, Nat.le_refl _, Nat.le_refl _⟩ (by
      rintro pre x post ⟨kn, rs⟩ e ⟨k1, k2, k3, k4⟩
      have k1 : rs = (dueAll F c pre).1 := k1
      have k2 : ∀ n, (dLook kn n).isSome = decide (n ∈ pre.map (·.a)) := k2
      have k3 : kn.length ≤ pre.length := k3
      have k4 : rs.length ≤ pre.length := k4
      have hpl : pre.length ≤ 1000 := by have := congrArg List.length e; rw [List.length_append] at this; omega
      rw [sort_m h, Res.bind_ok, k2]
      have ee : (cond (decide (x.a ∈ pre.map (·.a))) (.ok ("twice" : Str)) (.ok ((sortOf F c x.a x.b).getD "")) : Res Empty Str) = .ok ((effS F c (pre.map (·.a)) x).getD "") := by
        unfold effS
        by_cases hm : x.a ∈ pre.map (·.a)
        · rw [decide_eq_true hm, if_pos hm]; rfl
        · rw [decide_eq_false hm, if_neg hm]; rfl
      rw [ee, Res.then_ok]
      have hd : dueAll F c (pre ++ [x]) = dueStep F c (dueAll F c pre) x := dueAll_snoc
      have hkn : ∀ n, (dLook (dPut kn x.a x.b) n).isSome = decide (n ∈ (pre ++ [x]).map (·.a)) := fun n => by
        rw [dLook_put, List.map_append, List.map_cons, List.map_nil]
        by_cases hn : n = x.a
        · subst hn; simp
        · rw [if_neg hn, k2]; simp [hn]
      have hput := dPut_len (l := kn) (k := x.a) (x := x.b)
      have hap : (pre ++ [x]).length = pre.length + 1 := by simp
      cases ef : effS F c (pre.map (·.a)) x with
      | none =>
        rw [Option.getD_none, decide_eq_true rfl, Bool.not_true, cond_false, Res.then_ok, putD_ok (by omega), Res.bind_ok]
        refine is_ok ⟨?_, hkn, by rw [hap]; show (dPut kn x.a x.b).length ≤ _; omega, by rw [hap]; show rs.length ≤ _; omega⟩
        show rs = _
        rw [hd, dueStep, dueAll_keys, ef, k1]; simp
      | some z =>
        rw [Option.getD_some, str_ne (effS_ok ef), cond_true, appL_ok (by omega), Res.bind_ok, Res.then_ok, putD_ok (by omega), Res.bind_ok]
        refine is_ok ⟨?_, hkn, by rw [hap]; show (dPut kn x.a x.b).length ≤ _; omega, by rw [hap]; show (rs ++ _).length ≤ _; rw [List.length_append]; simp; omega⟩
        show rs ++ _ = _
        rw [hd, dueStep, dueAll_keys, ef, k1]; simp)
  rw [es, Res.then_ok]
  unfold sortD_
  rw [guard_ok (by omega), Res.bind_ok]
  have hmiss := missing_is (G := fun n => (getD_ F n).bind fun q => .ok q.a) (F := F) (kn := fun n => (dLook s.1 n).isSome) (ks := told.map (·.a)) hs2 (hs := sortI (F.map (·.1))) (acc := s.2) (fun n hn => by
    rw [mem_sortI, dLook_key] at hn
    obtain ⟨q, hq⟩ := Option.isSome_iff_exists.mp hn
    show (getD_ F n).bind _ = _
    rw [getD_ok hq, Res.bind_ok]; unfold pageOf; rw [hq]; rfl) (by rw [len_sortI, List.length_map]; have := hs3.2; omega)
  have conv : ∀ (s19 : List Rep) (x23 : Int), (cond ((!(dLook s.1 x23).isSome)) ((getD_ F x23).bind fun x25 => (appL s19 ((T3.mk x23 x25.a (("missing" : Str))))).bind fun x29 => .ok x29) (.ok s19) : Res Empty (List Rep)) = cond ((!(dLook s.1 x23).isSome)) (((getD_ F x23).bind fun q => .ok q.a).bind fun x29 => (appL s19 ((T3.mk x23 x29 (("missing" : Str))))).bind fun x31 => .ok x31) (.ok s19) := fun s19 x23 => by
    cases getD_ F x23 with
    | bad => rfl
    | ok q => rfl
    | ex e => cases e
  simp only [conv]
  rw [hmiss, Res.then_ok]
  unfold due
  rw [dueAll_keys, ← hs1]
theorem due_str {F : Fnd} {c : ChipM} {told : List Pair} : ∀ x ∈ due F c told, okStr x.c := by
  have h1 : ∀ (l : List Pair) st, (∀ x ∈ st.1, okStr x.c) → ∀ x ∈ (l.foldl (dueStep F c) st).1, okStr x.c := by
    intro l
    induction l with
    | nil => intro st h; exact h
    | cons y l ih =>
      intro st h
      rw [List.foldl_cons]
      refine ih _ fun x hx => ?_
      unfold dueStep at hx
      rcases List.mem_append.mp hx with hx | hx
      · exact h x hx
      · obtain ⟨z, hz, rfl⟩ := List.mem_map.mp hx
        exact effS_ok (by simpa using hz)
  have h2 : ∀ (ks : List Int) (l : List Int) acc, (∀ x ∈ acc, okStr x.c) → ∀ x ∈ l.foldl (missStep F ks) acc, okStr x.c := by
    intro ks l
    induction l with
    | nil => intro acc h; exact h
    | cons y l ih =>
      intro acc h
      rw [List.foldl_cons]
      refine ih _ fun x hx => ?_
      unfold missStep at hx
      split at hx
      · exact h x hx
      · rcases List.mem_append.mp hx with hx | hx
        · exact h x hx
        · simp at hx; subst hx; unfold okStr; simp
  exact h2 _ _ _ (h1 _ _ fun x hx => by cases hx)
theorem lay_due {F : Fnd} {c : ChipM} {told : List Pair} : layL (due F c told) = true := List.all_eq_true.mpr fun x hx => by
  have h := due_str x hx
  show PyData.canLay0 (.tuple [.int x.a, .int x.b, .str x.c]) = true
  have : PyData.canLay0 (.str x.c) = true := by
    rcases h with h | h | h | h | h | h <;> rw [h] <;> decide +kernel
  show (true && (true && (PyData.canLay0 (.str x.c) && true))) = true
  rw [this]; rfl
end Wn
namespace Wn
open PySem L2
theorem cutL_drop {α : Type} {xs : List α} {i : Int} (h : 0 ≤ i) : cutL xs (some i) none = xs.drop i.toNat := by
  obtain ⟨n, rfl⟩ := Int.eq_ofNat_of_zero_le h
  unfold cutL
  rw [HT.sIx_nat, HT.sIx_none, Int.toNat_natCast]
  by_cases h : n ≤ xs.length
  · rw [Nat.min_eq_left h, List.take_of_length_le (by simp)]
  · rw [Nat.min_eq_right (by omega), List.drop_length, List.drop_of_length_le (by omega)]; simp
theorem cutL_take {α : Type} {xs : List α} {i : Int} (h : 0 ≤ i) : cutL xs none (some i) = xs.take i.toNat := by
  obtain ⟨n, rfl⟩ := Int.eq_ofNat_of_zero_le h
  unfold cutL
  rw [HT.sIx_nat, HT.sIx_none, Int.toNat_natCast]
  show (xs.drop 0).take (min n xs.length - 0) = _
  rw [List.drop_zero, Nat.sub_zero, List.take_eq_take_min (i := n)]
theorem forR_is {ε S α ρ : Type} {fb : S → α → Res ε (Ctl S ρ)} (I : List α → S → Prop) : ∀ {xs pre : List α} {s : S}, I pre s → (∀ p x q s, pre ++ xs = p ++ x :: q → I p s → Is (fb s x) (fun c => ∃ s', c = .nx s' ∧ I (p ++ [x]) s')) → Is (forR fb s xs) (fun c => ∃ s', c = .nx s' ∧ I (pre ++ xs) s')
  | [], pre, s, h, _ => by rw [List.append_nil]; exact is_ok ⟨s, rfl, h⟩
  | x :: xs, pre, s, h, k => by
    refine is_then (k pre x xs s rfl h) fun c hc => ?_
    obtain ⟨s', rfl, h'⟩ := hc
    have := forR_is I (xs := xs) (pre := pre ++ [x]) h' (fun p y q s e hp => k p y q s (by rw [← e, List.append_assoc]; rfl) hp)
    rw [List.append_assoc] at this
    exact this
theorem lay_pair {l : List Pair} : layL l = true := List.all_eq_true.mpr fun x _ => rfl
theorem eqL_self {α : Type} [Fr α] [Dt α] [DecidableEq α] {xs ys : List α} (e : xs = ys) (h : layL xs = true) : eqL xs ys = .ok true := by
  subst e
  unfold eqL
  rw [guard_ok ⟨h, h⟩, decide_eq_true rfl]
theorem page_ok (cell : Int) {size : Int} (h : 0 < size) : Is (m__law_page cell size) fun _ => True := by
  unfold m__law_page
  rw [modI_ok (by decide), Res.bind_ok, Res.bind_ok]
  refine is_cond (fun _ => ?_) fun _ => ?_
  · generalize hi : cell / 6 % 4 = i
    have h0 : 0 ≤ i := by omega
    have h4 : i < 4 := by omega
    obtain ⟨x, hx⟩ := getEx (l := [(-((1 : Int))), size, ((-((7 : Int))) - cell % (10 : Int) ^ (20 : Int).toNat), (size + cell % (10 : Int) ^ (20 : Int).toNat)]) (i := i.toNat) (by simp; omega)
    rw [ixL_ok h0 hx]
    exact is_ok trivial
  · rw [modI_ok h]
    exact is_ok trivial
structure TdOk (n : Nat) (l : List Pair) : Prop where
  nm : ∀ x ∈ l, x.a ≠ 64
  len : l.length ≤ n
theorem spoiled_ok {told : List Pair} {k : Nat} (t : TdOk k told) (hk : k ≤ 1000) (cell way : Int) {size : Int} (hs : 0 < size) : Is (m__law_spoiled told cell size way) (TdOk (k + 1)) := by
  have hl := t.len
  unfold m__law_spoiled
  rw [modI_ok (by omega), Res.bind_ok]
  refine is_bind (page_ok _ hs) fun pg _ => ?_
  refine is_bind (mix_ok cell 3) fun mx _ => ?_
  refine is_bind (name_ok way ⟨Int.emod_nonneg _ (by decide), by have := Int.emod_lt_of_pos mx (b := 6) (by decide); omega⟩) fun nm hnm => ?_
  have h0 : 0 ≤ cell / 5 % ((told.length : Int) + 1) := Int.emod_nonneg _ (by omega)
  have h1 : cell / 5 % ((told.length : Int) + 1) < (told.length : Int) + 1 := Int.emod_lt_of_pos _ (by omega)
  generalize cell / 5 % ((told.length : Int) + 1) = i at *
  have tk : ∀ x ∈ told.take i.toNat, x.a ≠ 64 := fun x hx => t.nm x (List.mem_of_mem_take hx)
  have dr : ∀ j, ∀ x ∈ told.drop j, x.a ≠ 64 := fun j x hx => t.nm x (List.mem_of_mem_drop hx)
  have l1 : (told.take i.toNat).length = i.toNat := by rw [List.length_take]; omega
  have l2 : (told.drop i.toNat).length = told.length - i.toNat := by rw [List.length_drop]
  have l3 : (told.drop (i + 1).toNat).length = told.length - (i + 1).toNat := by rw [List.length_drop]
  rw [cutL_take h0, cutL_drop h0, cutL_drop (show 0 ≤ i + 1 by omega)]
  have mid : ∀ (y : Pair) (j : Nat), j = i.toNat ∨ j = (i + 1).toNat → y.a ≠ 64 → Is ((catL (told.take i.toNat) [y]).bind fun x8 => (catL x8 (told.drop j)).bind fun x11 => (.ok x11 : Res Empty _)) (TdOk (k + 1)) := fun y j hj hy => by
    have l4 : (told.drop j).length ≤ told.length - i.toNat := by rw [List.length_drop]; omega
    rw [catL_ok (by rw [l1]; simp; omega), Res.bind_ok, catL_ok (by rw [List.length_append, l1]; simp; omega), Res.bind_ok]
    refine is_ok ⟨fun x hx => ?_, by rw [List.length_append, List.length_append, l1]; simp at l4 ⊢; omega⟩
    rcases List.mem_append.mp hx with hx | hx
    · rcases List.mem_append.mp hx with hx | hx
      · exact tk x hx
      · simp at hx; subst hx; exact hy
    · exact dr _ x hx
  refine is_cond (fun _ => mid _ _ (.inl rfl) (by show nm ≠ 64; omega)) fun hc => ?_
  have hi : i < told.length := by
    rw [Bool.or_eq_false_iff] at hc
    have := of_decide_eq_false hc.2
    omega
  obtain ⟨y, hy⟩ := getEx (l := told) (i := i.toNat) (by omega)
  have hym := t.nm y (List.mem_of_getElem? hy)
  rw [ixL_ok h0 hy, Res.bind_ok]
  refine is_cond (fun _ => mid _ _ (.inr rfl) hym) fun _ => ?_
  refine is_cond (fun _ => mid _ _ (.inr rfl) (by show nm ≠ 64; omega)) fun _ => ?_
  refine is_cond (fun _ => ?_) fun _ => mid y _ (.inl rfl) hym
  rw [catL_ok (by rw [l1, l3]; omega), Res.bind_ok]
  refine is_ok ⟨fun x hx => ?_, by rw [List.length_append, l1, l3]; omega⟩
  rcases List.mem_append.mp hx with hx | hx
  · exact tk x hx
  · exact dr _ x hx
/-! ### the first telling has no fault -/
theorem due_none {c : ChipM} {F : Fnd} {told : List Pair} (h1 : (told.map (·.a)).Nodup) (h2 : ∀ x ∈ told, sortOf F c x.a x.b = none) (h3 : ∀ n, n ∈ F.map (·.1) → n ∈ told.map (·.a)) : due F c told = [] := by
  have a : ∀ (l pre : List Pair), ((pre ++ l).map (·.a)).Nodup → (∀ x ∈ l, sortOf F c x.a x.b = none) → (l.foldl (dueStep F c) ([], pre.map (·.a))).1 = [] := by
    intro l
    induction l with
    | nil => intro _ _ _; rfl
    | cons x l ih =>
      intro pre hn hs
      rw [List.foldl_cons]
      have hx : x.a ∉ pre.map (·.a) := fun hm => by
        rw [List.map_append] at hn
        exact (List.nodup_append.mp hn).2.2 _ hm x.a (by simp) rfl
      have e : dueStep F c ([], pre.map (·.a)) x = ([], (pre ++ [x]).map (·.a)) := by
        unfold dueStep effS
        rw [if_neg hx, hs x List.mem_cons_self, List.map_append]; rfl
      rw [e]
      exact ih (pre ++ [x]) (by rw [List.append_assoc]; exact hn) fun y hy => hs y (List.mem_cons_of_mem _ hy)
  unfold due
  have e1 : (dueAll F c told).1 = [] := a told [] h1 h2
  rw [e1, dueAll_keys]
  have b : ∀ (l : List Int), (∀ n ∈ l, n ∈ told.map (·.a)) → l.foldl (missStep F (told.map (·.a))) [] = [] := by
    intro l
    induction l with
    | nil => intro _; rfl
    | cons n l ih =>
      intro hl
      rw [List.foldl_cons, missStep, if_pos (hl n List.mem_cons_self)]
      exact ih fun m hm => hl m (List.mem_cons_of_mem _ hm)
  exact b _ fun n hn => h3 n (mem_sortI.mp hn)
theorem sortOf_found {c : ChipM} (h : Chp c) {F : Fnd} (hF : ∀ n, dLook F n = liveF (srt c) n) {n : Int} {q : Pair} (e : dLook F n = some q) : n ≠ 64 ∧ sortOf F c n q.a = none := by
  have e2 := e
  rw [hF] at e2
  unfold liveF at e2
  by_cases h64 : n = 64
  · rw [if_pos h64] at e2; cases e2
  rw [if_neg h64] at e2
  refine ⟨h64, ?_⟩
  obtain ⟨x, hx, e3⟩ := Option.bind_eq_some_iff.mp e2
  split at e3
  · cases e3
    obtain ⟨hm, hn⟩ := lastN_mem hx
    obtain ⟨r, t, ht, _, h2, _⟩ := row_ok h (srt_mem.mp hm)
    have hlt := (List.getElem?_eq_some_iff.mp ht).1
    have hb := r.b
    unfold sortOf
    rw [if_pos ⟨hb.1, by show x.b < _; omega⟩]
    show (match c.stuff[x.b.toNat]? with | some (some t) => _ | _ => _) = _
    rw [ht]
    dsimp only
    rw [if_pos (h2.trans hn), e]
    dsimp only
    rw [if_pos rfl]
  · cases e3
theorem law_true (ns : List Int) (hn : ns.length ≤ 63) : m_law ns = .ok true := by
  suffices h : Is (m_law ns) (fun b => b = true) by
    obtain ⟨b, e, rfl⟩ := h; exact e
  unfold m_law
  refine is_bind (cell_ok ns 0) fun x1 _ => ?_
  refine is_bind (cell_ok ns 1) fun x2 _ => ?_
  refine is_bind (cell_ok ns 2) fun way _ => ?_
  have hb1 := Int.emod_nonneg x1 (b := 4) (by decide)
  have hb2 := Int.emod_lt_of_pos x1 (b := 4) (by decide)
  have hp1 := Int.emod_nonneg x2 (b := 4) (by decide)
  have hp2 := Int.emod_lt_of_pos x2 (b := 4) (by decide)
  generalize hB : 4 + x1 % 4 = B
  generalize hP : 1 + x2 % 4 = P
  refine is_bind (chip_new (b := B) (p := P) (by omega) (by omega)) fun c0 hc0 => ?_
  obtain ⟨q0, e1, e2, e3, e4⟩ := hc0
  have lay := lay_ok (way := way) q0 hn (by rw [e1, e2]; exact e3) e4
  rw [e1, e2] at lay
  refine is_bind lay fun c hc => ?_
  obtain ⟨qc, e5, e6, la⟩ := hc
  have h : Chp c := ⟨qc, by omega, by omega, la⟩
  have hsz := h.size
  have hst := qc.stuff
  rw [e5, e6] at hst
  have hpos : 0 < B * P := Int.mul_pos (by omega) (by omega)
  have hmul : mulI B P = .ok (c.stuff.length : Int) := by rw [mulI_ok (.inl (by omega)), hst]
  rw [hmul, Res.bind_ok]
  refine is_bind (found_is h) fun F hFF => ?_
  obtain ⟨hF, hFk, hFl⟩ := hFF
  unfold sortD_
  rw [guard_ok (by omega), Res.bind_ok]
  have hks : ∀ n, n ∈ sortI (F.map (·.1)) ↔ (dLook F n).isSome = true := fun n => by rw [mem_sortI, dLook_key]
  have hkl : (sortI (F.map (·.1))).length ≤ 28 := by rw [len_sortI, List.length_map]; exact hFl
  have hkn : (sortI (F.map (·.1))).Nodup := (List.mergeSort_perm ..).nodup_iff.mpr hFk
  rw [lcR_ok (g := fun n => some (T2.mk n (pageOf F n))) (fun n hn => by
    obtain ⟨q, hq⟩ := Option.isSome_iff_exists.mp ((hks n).mp hn)
    unfold pageOf
    rw [getD_ok hq, Res.bind_ok, hq]; rfl) (by unfold few; simp; omega), Res.then_ok, List.nil_append, List.filterMap_eq_map']
  generalize hks0 : sortI (F.map (·.1)) = ks at *
  refine is_bind (cell_ok ns 3) fun x3 _ => ?_
  have hml : (ks.map fun n => T2.mk n (pageOf F n)).length = ks.length := List.length_map ..
  rw [hml, modI_ok (by omega), Res.bind_ok]
  have r0 : 0 ≤ x3 % ((ks.length : Int) + 1) := Int.emod_nonneg _ (by omega)
  generalize x3 % ((ks.length : Int) + 1) = rt at *
  rw [cutL_drop r0, cutL_take r0]
  generalize hT : (ks.map fun n => T2.mk n (pageOf F n)) = T at *
  have hperm : (T.drop rt.toNat ++ T.take rt.toNat).Perm T := (List.perm_append_comm).trans (by rw [List.take_append_drop])
  have hpl := hperm.length_eq
  rw [catL_ok (by rw [List.length_append] at hpl; omega), Res.bind_ok]
  generalize hR : T.drop rt.toNat ++ T.take rt.toNat = R at *
  have hTa : T.map (·.a) = ks := by rw [← hT, List.map_map]; exact List.map_id _
  have hRa : (R.map (·.a)).Perm ks := by rw [← hTa]; exact hperm.map _
  have hRs : ∀ x ∈ R, x.a ≠ 64 ∧ sortOf F c x.a x.b = none := fun x hx => by
    rw [hperm.mem_iff, ← hT] at hx
    obtain ⟨n, hn, rfl⟩ := List.mem_map.mp hx
    obtain ⟨q, hq⟩ := Option.isSome_iff_exists.mp ((hks n).mp hn)
    have := sortOf_found h hF hq
    have ep : pageOf F n = q.a := by unfold pageOf; rw [hq]; rfl
    show n ≠ 64 ∧ sortOf F c n (pageOf F n) = none
    rw [ep]; exact this
  have t0 : TdOk 28 R := ⟨fun x hx => (hRs x hx).1, by omega⟩
  have hfa : ∀ {told : List Pair} {k : Nat}, TdOk k told → k ≤ 1000 → m_faults c told = .ok (due F c told) := fun t hk => faults_is h hF hFk hFl t.nm (Nat.le_trans t.len hk)
  have hdu : ∀ {told : List Pair} {k : Nat}, TdOk k told → k ≤ 1000 → m__law_due c (c.stuff.length : Int) F told = .ok (due F c told) := fun t hk => due_is h hFl (Nat.le_trans t.len hk)
  have hnone : due F c R = [] := due_none (hRa.nodup_iff.mpr hkn) (fun x hx => (hRs x hx).2) fun n hn => by
    rw [hRa.mem_iff, ← hks0]; exact mem_sortI.mpr hn
  rw [hfa t0 (by decide), Res.bind_ok, hnone, eqL_self rfl rfl, Res.bind_ok, Bool.not_true, cond_false]
  have hM1 : min2 (ns.length : Int) 12 ≤ 12 := by unfold min2; split <;> omega
  have hM2 : min2 (ns.length : Int) 12 ≤ ns.length := by unfold min2; split <;> omega
  have hM3 : 0 ≤ min2 (ns.length : Int) 12 := by unfold min2; split <;> omega
  generalize min2 (ns.length : Int) 12 = M at *
  rw [rng2_ok (by decide) (by omega), Res.bind_ok]
  refine is_then (forR_is (fun pre told => TdOk (28 + pre.length) told) (pre := []) t0 ?_) fun ct hct => ?_
  · intro p x q told e tk
    rw [List.nil_append] at e
    have hx : x ∈ rangeL 4 M := by rw [e]; simp
    rw [mem_rangeL] at hx
    have hpl : p.length ≤ 100 := by
      have := congrArg List.length e
      rw [rangeL_len, List.length_append] at this
      omega
    obtain ⟨y, hy⟩ := getEx (l := ns) (i := x.toNat) (by omega)
    rw [ixL_ok (by omega) hy, Res.bind_ok, Res.bind_ok]
    refine is_bind (spoiled_ok tk (by omega) (y / 3) way (by omega)) fun td ht => ?_
    rw [hfa ht (by omega), Res.bind_ok, Res.bind_ok, hdu ht (by omega), Res.bind_ok, eqL_self rfl lay_due, Res.bind_ok, eqL_self rfl lay_pair]
    refine is_ok ⟨td, rfl, ?_⟩
    rw [List.length_append]
    exact ht
  · obtain ⟨told, rfl, tk⟩ := hct
    rw [List.nil_append, rangeL_len] at tk
    show Is (Res.bind (m_faults c told) _) _
    rw [hfa tk (by omega), Res.bind_ok, Res.bind_ok, hdu tk (by omega), Res.bind_ok, eqL_self rfl lay_due]
    exact is_ok rfl
end Wn
namespace HT
open PySem PySem.Spec PyProof.Rows L2 Wn
def top (i : Nat) : Stmt := PySem.Challenge.pw_wornpages_k66_planted_faults.main.body.getD i (.Pass ⟨0, 0, 0, 0⟩)
abbrev st_is_whole : Stmt := top 17
def d_is_whole : He.DefD := ⟨("is_whole", none), "is_whole", "is_whole", defArgs st_is_whole, defBody st_is_whole, defScope st_is_whole, [], []⟩
abbrev st_is_within : Stmt := top 18
def d_is_within : He.DefD := ⟨("is_within", none), "is_within", "is_within", defArgs st_is_within, defBody st_is_within, defScope st_is_within, [], []⟩
abbrev st_mark_of : Stmt := top 3
def d_mark_of : He.DefD := ⟨("mark_of", none), "mark_of", "mark_of", defArgs st_mark_of, defBody st_mark_of, defScope st_mark_of, [], []⟩
abbrev st_stamp_of : Stmt := top 4
def d_stamp_of : He.DefD := ⟨("stamp_of", none), "stamp_of", "stamp_of", defArgs st_stamp_of, defBody st_stamp_of, defScope st_stamp_of, [], []⟩
abbrev st_name_of : Stmt := top 5
def d_name_of : He.DefD := ⟨("name_of", none), "name_of", "name_of", defArgs st_name_of, defBody st_name_of, defScope st_name_of, [], []⟩
abbrev st_sheets_of : Stmt := top 6
def d_sheets_of : He.DefD := ⟨("sheets_of", none), "sheets_of", "sheets_of", defArgs st_sheets_of, defBody st_sheets_of, defScope st_sheets_of, [], []⟩
abbrev st_endurance : Stmt := top 29
def d_endurance : He.DefD := ⟨("endurance", none), "endurance", "endurance", defArgs st_endurance, defBody st_endurance, defScope st_endurance, [], []⟩
abbrev st_Chip_is_dark : Stmt := inClass (top 30) 11
def d_Chip_is_dark : He.DefD := ⟨("Chip", some "is_dark"), "is_dark", "Chip.is_dark", defArgs st_Chip_is_dark, defBody st_Chip_is_dark, defScope st_Chip_is_dark, [], []⟩
abbrev st_Chip_need_page : Stmt := inClass (top 30) 1
def d_Chip_need_page : He.DefD := ⟨("Chip", some "need_page"), "need_page", "Chip.need_page", defArgs st_Chip_need_page, defBody st_Chip_need_page, defScope st_Chip_need_page, [], []⟩
abbrev st_Chip_need_power : Stmt := inClass (top 30) 3
def d_Chip_need_power : He.DefD := ⟨("Chip", some "need_power"), "need_power", "Chip.need_power", defArgs st_Chip_need_power, defBody st_Chip_need_power, defScope st_Chip_need_power, [], []⟩
abbrev st_Chip_need_good : Stmt := inClass (top 30) 4
def d_Chip_need_good : He.DefD := ⟨("Chip", some "need_good"), "need_good", "Chip.need_good", defArgs st_Chip_need_good, defBody st_Chip_need_good, defScope st_Chip_need_good, [], []⟩
abbrev st_Chip_goes_well : Stmt := inClass (top 30) 5
def d_Chip_goes_well : He.DefD := ⟨("Chip", some "goes_well"), "goes_well", "Chip.goes_well", defArgs st_Chip_goes_well, defBody st_Chip_goes_well, defScope st_Chip_goes_well, [], []⟩
abbrev st_Chip_put : Stmt := inClass (top 30) 6
def d_Chip_put : He.DefD := ⟨("Chip", some "put"), "put", "Chip.put", defArgs st_Chip_put, defBody st_Chip_put, defScope st_Chip_put, [], []⟩
abbrev st_Chip_read : Stmt := inClass (top 30) 8
def d_Chip_read : He.DefD := ⟨("Chip", some "read"), "read", "Chip.read", defArgs st_Chip_read, defBody st_Chip_read, defScope st_Chip_read, [], []⟩
abbrev st_Chip___init__ : Stmt := inClass (top 30) 0
def d_Chip___init__ : He.DefD := ⟨("Chip", some "__init__"), "__init__", "Chip.__init__", defArgs st_Chip___init__, defBody st_Chip___init__, defScope st_Chip___init__, [.int 1000000, .non], []⟩
abbrev st_Book___init__ : Stmt := inClass (top 8) 0
def d_Book___init__ : He.DefD := ⟨("Book", some "__init__"), "__init__", "Book.__init__", defArgs st_Book___init__, defBody st_Book___init__, defScope st_Book___init__, [], []⟩
abbrev st_Book_start_at : Stmt := inClass (top 8) 1
def d_Book_start_at : He.DefD := ⟨("Book", some "start_at"), "start_at", "Book.start_at", defArgs st_Book_start_at, defBody st_Book_start_at, defScope st_Book_start_at, [], []⟩
abbrev st_Book_held : Stmt := inClass (top 8) 7
def d_Book_held : He.DefD := ⟨("Book", some "held"), "held", "Book.held", defArgs st_Book_held, defBody st_Book_held, defScope st_Book_held, [], []⟩
abbrev st_Book_forget : Stmt := inClass (top 8) 4
def d_Book_forget : He.DefD := ⟨("Book", some "forget"), "forget", "Book.forget", defArgs st_Book_forget, defBody st_Book_forget, defScope st_Book_forget, [], []⟩
abbrev st_Book_note : Stmt := inClass (top 8) 3
def d_Book_note : He.DefD := ⟨("Book", some "note"), "note", "Book.note", defArgs st_Book_note, defBody st_Book_note, defScope st_Book_note, [], []⟩
abbrev st_rows_by_stamp : Stmt := top 20
def d_rows_by_stamp : He.DefD := ⟨("rows_by_stamp", none), "rows_by_stamp", "rows_by_stamp", defArgs st_rows_by_stamp, defBody st_rows_by_stamp, defScope st_rows_by_stamp, [], []⟩
abbrev st_stamp_of_roll : Stmt := top 21
def d_stamp_of_roll : He.DefD := ⟨("stamp_of_roll", none), "stamp_of_roll", "stamp_of_roll", defArgs st_stamp_of_roll, defBody st_stamp_of_roll, defScope st_stamp_of_roll, [], []⟩
abbrev st_book_of : Stmt := top 22
def d_book_of : He.DefD := ⟨("book_of", none), "book_of", "book_of", defArgs st_book_of, defBody st_book_of, defScope st_book_of, [], []⟩
abbrev st_fault : Stmt := top 24
def d_fault : He.DefD := ⟨("fault", none), "fault", "fault", defArgs st_fault, defBody st_fault, defScope st_fault, [], []⟩
abbrev st_faults : Stmt := top 25
def d_faults : He.DefD := ⟨("faults", none), "faults", "faults", defArgs st_faults, defBody st_faults, defScope st_faults, [], []⟩
abbrev st__law_cell_at : Stmt := top 32
def d__law_cell_at : He.DefD := ⟨("_law_cell_at", none), "_law_cell_at", "_law_cell_at", defArgs st__law_cell_at, defBody st__law_cell_at, defScope st__law_cell_at, [], []⟩
abbrev st__law_mix : Stmt := top 33
def d__law_mix : He.DefD := ⟨("_law_mix", none), "_law_mix", "_law_mix", defArgs st__law_mix, defBody st__law_mix, defScope st__law_mix, [], []⟩
abbrev st__law_newest : Stmt := top 34
def d__law_newest : He.DefD := ⟨("_law_newest", none), "_law_newest", "_law_newest", defArgs st__law_newest, defBody st__law_newest, defScope st__law_newest, [], []⟩
abbrev st__law_found : Stmt := top 35
def d__law_found : He.DefD := ⟨("_law_found", none), "_law_found", "_law_found", defArgs st__law_found, defBody st__law_found, defScope st__law_found, [], []⟩
abbrev st__law_name : Stmt := top 36
def d__law_name : He.DefD := ⟨("_law_name", none), "_law_name", "_law_name", defArgs st__law_name, defBody st__law_name, defScope st__law_name, [], []⟩
abbrev st__law_bits : Stmt := top 37
def d__law_bits : He.DefD := ⟨("_law_bits", none), "_law_bits", "_law_bits", defArgs st__law_bits, defBody st__law_bits, defScope st__law_bits, [], []⟩
abbrev st__law_lay : Stmt := top 38
def d__law_lay : He.DefD := ⟨("_law_lay", none), "_law_lay", "_law_lay", defArgs st__law_lay, defBody st__law_lay, defScope st__law_lay, [], []⟩
abbrev st__law_page : Stmt := top 39
def d__law_page : He.DefD := ⟨("_law_page", none), "_law_page", "_law_page", defArgs st__law_page, defBody st__law_page, defScope st__law_page, [], []⟩
abbrev st__law_spoiled : Stmt := top 40
def d__law_spoiled : He.DefD := ⟨("_law_spoiled", none), "_law_spoiled", "_law_spoiled", defArgs st__law_spoiled, defBody st__law_spoiled, defScope st__law_spoiled, [], []⟩
abbrev st__law_sort : Stmt := top 41
def d__law_sort : He.DefD := ⟨("_law_sort", none), "_law_sort", "_law_sort", defArgs st__law_sort, defBody st__law_sort, defScope st__law_sort, [], []⟩
abbrev st__law_due : Stmt := top 42
def d__law_due : He.DefD := ⟨("_law_due", none), "_law_due", "_law_due", defArgs st__law_due, defBody st__law_due, defScope st__law_due, [], []⟩
abbrev st_law : Stmt := top 43
def d_law : He.DefD := ⟨("law", none), "law", "law", defArgs st_law, defBody st_law, defScope st_law, [], []⟩
def fa_0 : List He.Fa := [.glo "is_whole", .glo "is_within", .glo "endurance", .glo "stamp_of", .glo "name_of", .glo "Book", .glo "rows_by_stamp", .glo "stamp_of_roll", .glo "sheets_of", .glo "book_of", .glo "fault", .glo "_law_newest", .glo "_law_mix", .glo "_law_name", .glo "_law_bits", .glo "mark_of", .glo "_law_page", .glo "_law_sort", .glo "_law_cell_at", .glo "Chip", .glo "_law_lay", .glo "_law_found", .glo "faults", .glo "_law_spoiled", .glo "_law_due", .glo "law", .free "isinstance", .free "int", .free "bool", .free "len"]
def fa_30 : List He.Fa := [.free "sorted", .free "range", .free "min", .free "list", .int "MANY" (16), .int "MOST" (1000000), .int "ROLL" (64), .cls "Chip", .noat "Chip" "blocks", .noat "Chip" "pages", .noat "Chip" "most", .noat "Chip" "lasts", .noat "Chip" "stuff", .noat "Chip" "tried", .noat "Chip" "clearings", .noat "Chip" "broken", .noat "Chip" "left", .noat "Chip" "log", .cls "Book", .noat "Book" "blocks", .noat "Book" "pages", .noat "Book" "where", .noat "Book" "names", .noat "Book" "live", .noat "Book" "filled", .noat "Book" "born", .noat "Book" "stamp", .mkr "Book", .mkr "Chip", .meth "Chip" "is_dark"]
def fa_60 : List He.Fa := [.meth "Chip" "need_page", .meth "Chip" "need_power", .meth "Chip" "need_good", .meth "Chip" "goes_well", .meth "Book" "forget", .meth "Chip" "read", .meth "Book" "start_at", .meth "Book" "note", .meth "Book" "held", .meth "Chip" "put"]
def fa : List He.Fa := fa_0 ++ fa_30 ++ fa_60
def fn_0 : List He.DefD := [d_is_whole, d_is_within, d_mark_of, d_stamp_of, d_name_of, d_sheets_of, d_endurance, d_Chip_is_dark, d_Chip_need_page, d_Chip_need_power, d_Chip_need_good, d_Chip_goes_well, d_Chip_put, d_Chip_read, d_Chip___init__, d_Book___init__, d_Book_start_at, d_Book_held, d_Book_forget, d_Book_note, d_rows_by_stamp, d_stamp_of_roll, d_book_of, d_fault, d_faults, d__law_cell_at, d__law_mix, d__law_newest, d__law_found, d__law_name]
def fn_30 : List He.DefD := [d__law_bits, d__law_lay, d__law_page, d__law_spoiled, d__law_sort, d__law_due, d_law]
def fn : List He.DefD := fn_0 ++ fn_30
def names_0 : List Str := ["_wall", "__name__", "ROLL", "mark_of", "stamp_of", "name_of", "sheets_of", "Book", "WornError", "NoChip", "NoPlace", "PowerGone", "BlockFailed", "NotClear", "is_whole", "is_within", "rows_by_stamp", "stamp_of_roll", "book_of", "fault", "faults", "MANY", "MOST", "endurance", "Chip", "_law_cell_at", "_law_mix", "_law_newest", "_law_found", "_law_name"]
def names_30 : List Str := ["_law_bits", "_law_lay", "_law_page", "_law_spoiled", "_law_sort", "_law_due"]
def names : List Str := names_0 ++ names_30
abbrev R : PySem.W.OpenRow := PySem.W.OpenLaw.row PySem.Challenge.rw_wornpages_k66_planted_faults
abbrev hk : PySem.W.Hook := He.hookD 5 fa fn
def ob (s : PySem.W.SharedT) : He.AlD := He.obsDG 5 fa fn (HandSHeadRun.getT s)
theorem ob_eq (s : PySem.W.SharedT) : ob s = hk.obs s.abs := He.obsDG_eq (HandSHeadRun.getT_eq s)
theorem run (w : World) : HandSHeadRun.RunEq R (PySem.W.view R.prog [43]) hk ob 20000 names w := by
  intro os
  kernel_rfl
theorem roomU {k : Nat} {A : Around} (r : Room k A) : A.units + 1 < cLine := by have := r.units; omega
section
variable {P : Program} {w : World} {K : PySem.W.Frag} {mg : Str → Option Value} {base h : Heap}
theorem t_Chip (c : He.SaysD fa fn K) : TChip K := ⟨He.cls_ok (c.fact 37 (f := .cls "Chip") rfl), fun f hf => by
  rcases List.mem_cons.mp hf with rfl | hf
  · exact He.noat_ok (c.fact 38 (f := .noat "Chip" "blocks") rfl)
  rcases List.mem_cons.mp hf with rfl | hf
  · exact He.noat_ok (c.fact 39 (f := .noat "Chip" "pages") rfl)
  rcases List.mem_cons.mp hf with rfl | hf
  · exact He.noat_ok (c.fact 40 (f := .noat "Chip" "most") rfl)
  rcases List.mem_cons.mp hf with rfl | hf
  · exact He.noat_ok (c.fact 41 (f := .noat "Chip" "lasts") rfl)
  rcases List.mem_cons.mp hf with rfl | hf
  · exact He.noat_ok (c.fact 42 (f := .noat "Chip" "stuff") rfl)
  rcases List.mem_cons.mp hf with rfl | hf
  · exact He.noat_ok (c.fact 43 (f := .noat "Chip" "tried") rfl)
  rcases List.mem_cons.mp hf with rfl | hf
  · exact He.noat_ok (c.fact 44 (f := .noat "Chip" "clearings") rfl)
  rcases List.mem_cons.mp hf with rfl | hf
  · exact He.noat_ok (c.fact 45 (f := .noat "Chip" "broken") rfl)
  rcases List.mem_cons.mp hf with rfl | hf
  · exact He.noat_ok (c.fact 46 (f := .noat "Chip" "left") rfl)
  rcases List.mem_cons.mp hf with rfl | hf
  · exact He.noat_ok (c.fact 47 (f := .noat "Chip" "log") rfl)
  cases hf⟩
theorem t_Book (c : He.SaysD fa fn K) : TBook K := ⟨He.cls_ok (c.fact 48 (f := .cls "Book") rfl), fun f hf => by
  rcases List.mem_cons.mp hf with rfl | hf
  · exact He.noat_ok (c.fact 49 (f := .noat "Book" "blocks") rfl)
  rcases List.mem_cons.mp hf with rfl | hf
  · exact He.noat_ok (c.fact 50 (f := .noat "Book" "pages") rfl)
  rcases List.mem_cons.mp hf with rfl | hf
  · exact He.noat_ok (c.fact 51 (f := .noat "Book" "where") rfl)
  rcases List.mem_cons.mp hf with rfl | hf
  · exact He.noat_ok (c.fact 52 (f := .noat "Book" "names") rfl)
  rcases List.mem_cons.mp hf with rfl | hf
  · exact He.noat_ok (c.fact 53 (f := .noat "Book" "live") rfl)
  rcases List.mem_cons.mp hf with rfl | hf
  · exact He.noat_ok (c.fact 54 (f := .noat "Book" "filled") rfl)
  rcases List.mem_cons.mp hf with rfl | hf
  · exact He.noat_ok (c.fact 55 (f := .noat "Book" "born") rfl)
  rcases List.mem_cons.mp hf with rfl | hf
  · exact He.noat_ok (c.fact 56 (f := .noat "Book" "stamp") rfl)
  cases hf⟩
theorem sc_is_whole : FnScope ["thing"] ["thing"] (defScope st_is_whole) := ⟨rfl, rfl, rfl, by decide +kernel, rfl, by decide +kernel, by decide +kernel⟩
theorem ok_is_whole (X : K.In h) (G : h.Ns mainGlobals mg) (c : He.SaysD fa fn K) : ∃ fd, FnOk P w K mg base CX0 1 (He.fAd K ("is_whole", none)) fd ["thing"] (sp_is_whole K) ∧ Binds K fd ["thing"] [] ∧ PySem.W.keepIn K (.ref (He.fAd K ("is_whole", none))) = true := by
  obtain ⟨fd, F⟩ := c.def_ 0 (d := d_is_whole) rfl
  have FD : FunD K "is_whole" "is_whole" (defArgs st_is_whole) (defBody st_is_whole) (defScope st_is_whole) [] [] (He.fAd K ("is_whole", none)) fd := F
  refine ⟨fd, FD.ok (N := ["thing"]) (k := 0) sc_is_whole (fun vs H Q E h => by obtain ⟨_, _, _, hh⟩ := h.use; obtain ⟨_, e, _⟩ := hh; rw [e]; rfl) (fun cdv A outer s H vs Q E hr h => ⟨t_is_whole K, PSs.nox ?_, pure_is_whole  h⟩), FD.bindsN fun _ _ _ _ _ _ us hl => match us, hl with | [_], _ => rfl, FD.kp⟩
  exact pss_one (ps_ret (pe_and (pe_callB call_isi (by rfl) ((He.free_ok X G (c.fact 26 (f := .free "isinstance") rfl))) (by decide +kernel) (pa_cons (pv 0) (pa_cons (pe_bltn (by rfl) ((He.free_ok X G (c.fact 27 (f := .free "int") rfl))) (by decide +kernel) rfl) (pa_nil)))) (pe_one (pe_not (pe_callB call_isi (by rfl) ((He.free_ok X G (c.fact 26 (f := .free "isinstance") rfl))) (by decide +kernel) (pa_cons (pv 0) (pa_cons (pe_bltn (by rfl) ((He.free_ok X G (c.fact 28 (f := .free "bool") rfl))) (by decide +kernel) rfl) (pa_nil))))))))

theorem sc_is_within : FnScope ["thing", "low", "high"] ["thing", "low", "high"] (defScope st_is_within) := ⟨rfl, rfl, rfl, by decide +kernel, rfl, by decide +kernel, by decide +kernel⟩
theorem ok_is_within (X : K.In h) (G : h.Ns mainGlobals mg) (c : He.SaysD fa fn K) : ∃ fd, FnOk P w K mg base CX0 2 (He.fAd K ("is_within", none)) fd ["thing", "low", "high"] (sp_is_within K) ∧ Binds K fd ["thing", "low", "high"] [] ∧ PySem.W.keepIn K (.ref (He.fAd K ("is_within", none))) = true := by
  obtain ⟨fd_is_whole, G_is_whole, B_is_whole, KP_is_whole⟩ := ok_is_whole (P := P) (w := w) (base := base) X G c
  obtain ⟨fd, F⟩ := c.def_ 1 (d := d_is_within) rfl
  have FD : FunD K "is_within" "is_within" (defArgs st_is_within) (defBody st_is_within) (defScope st_is_within) [] [] (He.fAd K ("is_within", none)) fd := F
  refine ⟨fd, FD.ok (N := ["thing", "low", "high"]) (k := 1) sc_is_within (fun vs H Q E h => by obtain ⟨_, _, _, hh⟩ := h.use; obtain ⟨_, _, _, e, _⟩ := hh; rw [e]; rfl) (fun cdv A outer s H vs Q E hr h => ⟨t_is_within K, PSs.nox ?_, pure_is_within  h⟩), FD.bindsN fun _ _ _ _ _ _ us hl => match us, hl with | [_, _, _], _ => rfl, FD.kp⟩
  exact pss_one (ps_ret (pe_and (pe_call G_is_whole (hr.mono (by decide)) rfl ((He.glo_ok X G (c.fact 0 (f := .glo "is_whole") rfl))) KP_is_whole B_is_whole .nil pass0 (pa_cons (pv 0) (pa_nil))) (pe_one (pe_chain op_le op_le (pv 1) (pv 0) (pv 2)))))

theorem sc_mark_of : FnScope ["stamp", "name"] ["stamp", "name"] (defScope st_mark_of) := ⟨rfl, rfl, rfl, by decide +kernel, rfl, by decide +kernel, by decide +kernel⟩
theorem ok_mark_of (X : K.In h) (G : h.Ns mainGlobals mg) (c : He.SaysD fa fn K) : ∃ fd, FnOk P w K mg base CX0 1 (He.fAd K ("mark_of", none)) fd ["stamp", "name"] (sp_mark_of K) ∧ Binds K fd ["stamp", "name"] [] ∧ PySem.W.keepIn K (.ref (He.fAd K ("mark_of", none))) = true := by
  obtain ⟨fd, F⟩ := c.def_ 2 (d := d_mark_of) rfl
  have FD : FunD K "mark_of" "mark_of" (defArgs st_mark_of) (defBody st_mark_of) (defScope st_mark_of) [] [] (He.fAd K ("mark_of", none)) fd := F
  refine ⟨fd, FD.ok (N := ["stamp", "name"]) (k := 0) sc_mark_of (fun vs H Q E h => by obtain ⟨_, _, _, hh⟩ := h.use; obtain ⟨_, _, e, _⟩ := hh; rw [e]; rfl) (fun cdv A outer s H vs Q E hr h => ⟨t_mark_of K, PSs.nox ?_, pure_mark_of  h⟩), FD.bindsN fun _ _ _ _ _ _ us hl => match us, hl with | [_, _], _ => rfl, FD.kp⟩
  exact pss_one (ps_ret (pe_op op_or (pe_op op_shl (pv 0) (pe_int)) (pv 1)))

theorem sc_stamp_of : FnScope ["mark"] ["mark"] (defScope st_stamp_of) := ⟨rfl, rfl, rfl, by decide +kernel, rfl, by decide +kernel, by decide +kernel⟩
theorem ok_stamp_of (X : K.In h) (G : h.Ns mainGlobals mg) (c : He.SaysD fa fn K) : ∃ fd, FnOk P w K mg base CX0 1 (He.fAd K ("stamp_of", none)) fd ["mark"] (sp_stamp_of K) ∧ Binds K fd ["mark"] [] ∧ PySem.W.keepIn K (.ref (He.fAd K ("stamp_of", none))) = true := by
  obtain ⟨fd, F⟩ := c.def_ 3 (d := d_stamp_of) rfl
  have FD : FunD K "stamp_of" "stamp_of" (defArgs st_stamp_of) (defBody st_stamp_of) (defScope st_stamp_of) [] [] (He.fAd K ("stamp_of", none)) fd := F
  refine ⟨fd, FD.ok (N := ["mark"]) (k := 0) sc_stamp_of (fun vs H Q E h => by obtain ⟨_, _, _, hh⟩ := h.use; obtain ⟨_, e, _⟩ := hh; rw [e]; rfl) (fun cdv A outer s H vs Q E hr h => ⟨t_stamp_of K, PSs.nox ?_, pure_stamp_of  h⟩), FD.bindsN fun _ _ _ _ _ _ us hl => match us, hl with | [_], _ => rfl, FD.kp⟩
  exact pss_one (ps_ret (pe_op op_shr (pv 0) (pe_int)))

theorem sc_name_of : FnScope ["mark"] ["mark"] (defScope st_name_of) := ⟨rfl, rfl, rfl, by decide +kernel, rfl, by decide +kernel, by decide +kernel⟩
theorem ok_name_of (X : K.In h) (G : h.Ns mainGlobals mg) (c : He.SaysD fa fn K) : ∃ fd, FnOk P w K mg base CX0 1 (He.fAd K ("name_of", none)) fd ["mark"] (sp_name_of K) ∧ Binds K fd ["mark"] [] ∧ PySem.W.keepIn K (.ref (He.fAd K ("name_of", none))) = true := by
  obtain ⟨fd, F⟩ := c.def_ 4 (d := d_name_of) rfl
  have FD : FunD K "name_of" "name_of" (defArgs st_name_of) (defBody st_name_of) (defScope st_name_of) [] [] (He.fAd K ("name_of", none)) fd := F
  refine ⟨fd, FD.ok (N := ["mark"]) (k := 0) sc_name_of (fun vs H Q E h => by obtain ⟨_, _, _, hh⟩ := h.use; obtain ⟨_, e, _⟩ := hh; rw [e]; rfl) (fun cdv A outer s H vs Q E hr h => ⟨t_name_of K, PSs.nox ?_, pure_name_of  h⟩), FD.bindsN fun _ _ _ _ _ _ us hl => match us, hl with | [_], _ => rfl, FD.kp⟩
  exact pss_one (ps_ret (pe_op op_and (pv 0) (pe_int)))

theorem sc_sheets_of : FnScope ["bits", "found", "sheet"] ["bits"] (defScope st_sheets_of) := ⟨rfl, rfl, rfl, by decide +kernel, rfl, by decide +kernel, by decide +kernel⟩
theorem ok_sheets_of (X : K.In h) (G : h.Ns mainGlobals mg) (c : He.SaysD fa fn K) : ∃ fd, FnOk P w K mg base CX0 1 (He.fAd K ("sheets_of", none)) fd ["bits"] (sp_sheets_of K) ∧ Binds K fd ["bits"] [] ∧ PySem.W.keepIn K (.ref (He.fAd K ("sheets_of", none))) = true := by
  obtain ⟨fd, F⟩ := c.def_ 5 (d := d_sheets_of) rfl
  have FD : FunD K "sheets_of" "sheets_of" (defArgs st_sheets_of) (defBody st_sheets_of) (defScope st_sheets_of) [] [] (He.fAd K ("sheets_of", none)) fd := F
  refine ⟨fd, FD.ok (N := ["bits", "found", "sheet"]) (k := 0) sc_sheets_of (fun vs H Q E h => by obtain ⟨_, _, _, hh⟩ := h.use; obtain ⟨_, e, _⟩ := hh; rw [e]; rfl) (fun cdv A outer s H vs Q E hr h => ⟨t_sheets_of K, PSs.nox ?_, pure_sheets_of  h⟩), FD.bindsN fun _ _ _ _ _ _ us hl => match us, hl with | [_], _ => rfl, FD.kp⟩
  exact pss_cons (ps_set (i := 1) sc_sheets_of.nd rfl (Or.inl rfl) (pe_lst (pa_nil))) (pss_cons (ps_set (i := 2) sc_sheets_of.nd rfl (Or.inl rfl) (pe_int)) (pss_cons (ps_while PassesOwn.never (pt_cmpR op_gt (pv 0) (pe_int) (nomark _)) (pss_cons (ps_if (pt_cmpR op_eq (pe_op op_and (pv 0) (pe_int)) (pe_int) (nomark _)) (pss_one (ps_expr (pe_bm PySem.F.plainAttrs_list PySem.F.slot_list_append PySem.F.type_list_append mt_append (pv 1) (pa_cons (pv 2) (pa_nil))))) (pss_nil)) (pss_cons (ps_set (i := 0) sc_sheets_of.nd rfl (Or.inl rfl) (pe_op op_shr (pv 0) (pe_int))) (pss_one (ps_aug (i := 2) sc_sheets_of.nd rfl (Or.inl rfl) (pe_int) ip_add))))) (pss_one (ps_ret (pv 1)))))

theorem sc_endurance : FnScope ["blocks", "ills", "found", "block", "good"] ["blocks", "ills"] (defScope st_endurance) := ⟨rfl, rfl, rfl, by decide +kernel, rfl, by decide +kernel, by decide +kernel⟩
theorem ok_endurance (X : K.In h) (G : h.Ns mainGlobals mg) (c : He.SaysD fa fn K) : ∃ fd, FnOk P w K mg base CX0 1 (He.fAd K ("endurance", none)) fd ["blocks", "ills"] (sp_endurance K) ∧ Binds K fd ["blocks", "ills"] [] ∧ PySem.W.keepIn K (.ref (He.fAd K ("endurance", none))) = true := by
  obtain ⟨fd, F⟩ := c.def_ 6 (d := d_endurance) rfl
  have FD : FunD K "endurance" "endurance" (defArgs st_endurance) (defBody st_endurance) (defScope st_endurance) [] [] (He.fAd K ("endurance", none)) fd := F
  refine ⟨fd, FD.ok (N := ["blocks", "ills", "found", "block", "good"]) (k := 0) sc_endurance (fun vs H Q E h => by obtain ⟨_, _, _, hh⟩ := h.use; obtain ⟨_, _, e, _⟩ := hh; rw [e]; rfl) (fun cdv A outer s H vs Q E hr h => ⟨t_endurance K, PSs.nox ?_, pure_endurance  h⟩), FD.bindsN fun _ _ _ _ _ _ us hl => match us, hl with | [_, _], _ => rfl, FD.kp⟩
  exact pss_cons (ps_set (i := 2) sc_endurance.nd rfl (Or.inl rfl) (pe_op op_rep (pe_lst (pa_cons (pe_non) (pa_nil))) (pv 0))) (pss_cons (ps_if (pt_cmpR op_isN (pv 1) (pe_non) (nomark _)) (pss_one (ps_ret (pv 2))) (pss_nil)) (pss_cons (ps_never) (pss_one (ps_never))))

theorem sc_Chip_is_dark : FnScope ["self"] ["self"] (defScope st_Chip_is_dark) := ⟨rfl, rfl, rfl, by decide +kernel, rfl, by decide +kernel, by decide +kernel⟩
theorem ok_Chip_is_dark (X : K.In h) (G : h.Ns mainGlobals mg) (c : He.SaysD fa fn K) : ∃ fd, FnOk P w K mg base CX0 1 (He.fAd K ("Chip", some "is_dark")) fd ["self"] (sp_Chip_is_dark K) ∧ Binds K fd ["self"] [] ∧ PySem.W.keepIn K (.ref (He.fAd K ("Chip", some "is_dark"))) = true := by
  obtain ⟨fd, F⟩ := c.def_ 7 (d := d_Chip_is_dark) rfl
  have FD : FunD K "is_dark" "Chip.is_dark" (defArgs st_Chip_is_dark) (defBody st_Chip_is_dark) (defScope st_Chip_is_dark) [] [] (He.fAd K ("Chip", some "is_dark")) fd := F
  refine ⟨fd, FD.ok (N := ["self"]) (k := 0) sc_Chip_is_dark (fun vs H Q E h => by obtain ⟨_, _, _, hh⟩ := h.use; obtain ⟨_, _, _, e, _⟩ := hh; rw [e]; rfl) (fun cdv A outer s H vs Q E hr h => ⟨t_Chip_is_dark K, PSs.nox ?_, pure_Chip_is_dark (t_Chip c) h⟩), FD.bindsN fun _ _ _ _ _ _ us hl => match us, hl with | [_], _ => rfl, FD.kp⟩
  exact pss_one (ps_ret (pe_cmpR op_eq (pe_fld (pv 0) rfl) (pe_int) (nomark _)))

theorem sc_Chip_need_page : FnScope ["self", "page"] ["self", "page"] (defScope st_Chip_need_page) := ⟨rfl, rfl, rfl, by decide +kernel, rfl, by decide +kernel, by decide +kernel⟩
theorem ok_Chip_need_page (X : K.In h) (G : h.Ns mainGlobals mg) (c : He.SaysD fa fn K) : ∃ fd, FnOk P w K mg base CX0 3 (He.fAd K ("Chip", some "need_page")) fd ["self", "page"] (sp_Chip_need_page K) ∧ Binds K fd ["self", "page"] [] ∧ PySem.W.keepIn K (.ref (He.fAd K ("Chip", some "need_page"))) = true := by
  obtain ⟨fd_is_within, G_is_within, B_is_within, KP_is_within⟩ := ok_is_within (P := P) (w := w) (base := base) X G c
  obtain ⟨fd, F⟩ := c.def_ 8 (d := d_Chip_need_page) rfl
  have FD : FunD K "need_page" "Chip.need_page" (defArgs st_Chip_need_page) (defBody st_Chip_need_page) (defScope st_Chip_need_page) [] [] (He.fAd K ("Chip", some "need_page")) fd := F
  refine ⟨fd, FD.ok (N := ["self", "page"]) (k := 2) sc_Chip_need_page (fun vs H Q E h => by obtain ⟨_, _, _, hh⟩ := h.use; obtain ⟨_, _, _, _, e, _⟩ := hh; rw [e]; rfl) (fun cdv A outer s H vs Q E hr h => ⟨t_Chip_need_page K, PSs.nox ?_, pure_Chip_need_page (t_Chip c) h⟩), FD.bindsN fun _ _ _ _ _ _ us hl => match us, hl with | [_, _], _ => rfl, FD.kp⟩
  exact pss_one (ps_if (pt_not (pt_val (pe_call G_is_within (hr.mono (by decide)) rfl ((He.glo_ok X G (c.fact 1 (f := .glo "is_within") rfl))) KP_is_within B_is_within .nil pass0 (pa_cons (pv 1) (pa_cons (pe_int) (pa_cons (pe_op op_sub (pe_callB call_len (by rfl) ((He.free_ok X G (c.fact 29 (f := .free "len") rfl))) (by decide +kernel) (pa_cons (pe_fld (pv 0) rfl) (pa_nil))) (pe_int)) (pa_nil))))))) (pss_one (ps_never)) (pss_nil))

theorem sc_Chip_need_power : FnScope ["self"] ["self"] (defScope st_Chip_need_power) := ⟨rfl, rfl, rfl, by decide +kernel, rfl, by decide +kernel, by decide +kernel⟩
theorem ok_Chip_need_power (X : K.In h) (G : h.Ns mainGlobals mg) (c : He.SaysD fa fn K) : ∃ fd, FnOk P w K mg base CX0 2 (He.fAd K ("Chip", some "need_power")) fd ["self"] (sp_Chip_need_power K) ∧ Binds K fd ["self"] [] ∧ PySem.W.keepIn K (.ref (He.fAd K ("Chip", some "need_power"))) = true := by
  obtain ⟨fd_Chip_is_dark, G_Chip_is_dark, B_Chip_is_dark, KP_Chip_is_dark⟩ := ok_Chip_is_dark (P := P) (w := w) (base := base) X G c
  obtain ⟨fd, F⟩ := c.def_ 9 (d := d_Chip_need_power) rfl
  have FD : FunD K "need_power" "Chip.need_power" (defArgs st_Chip_need_power) (defBody st_Chip_need_power) (defScope st_Chip_need_power) [] [] (He.fAd K ("Chip", some "need_power")) fd := F
  refine ⟨fd, FD.ok (N := ["self"]) (k := 1) sc_Chip_need_power (fun vs H Q E h => by obtain ⟨_, _, _, hh⟩ := h.use; obtain ⟨_, _, _, e, _⟩ := hh; rw [e]; rfl) (fun cdv A outer s H vs Q E hr h => ⟨t_Chip_need_power K, PSs.nox ?_, pure_Chip_need_power  h⟩), FD.bindsN fun _ _ _ _ _ _ us hl => match us, hl with | [_], _ => rfl, FD.kp⟩
  exact pss_one (ps_if (pt_val (pe_meth0 (pv 0) (He.cls_ok (c.fact 37 (f := .cls "Chip") rfl)) (He.meth_ok (c.fact 59 (f := .meth "Chip" "is_dark") rfl)) G_Chip_is_dark (hr.mono (by decide)) B_Chip_is_dark .nil pass0)) (pss_one (ps_never)) (pss_nil))

theorem sc_Chip_need_good : FnScope ["self", "block"] ["self", "block"] (defScope st_Chip_need_good) := ⟨rfl, rfl, rfl, by decide +kernel, rfl, by decide +kernel, by decide +kernel⟩
theorem ok_Chip_need_good (X : K.In h) (G : h.Ns mainGlobals mg) (c : He.SaysD fa fn K) : ∃ fd, FnOk P w K mg base CX0 1 (He.fAd K ("Chip", some "need_good")) fd ["self", "block"] (sp_Chip_need_good K) ∧ Binds K fd ["self", "block"] [] ∧ PySem.W.keepIn K (.ref (He.fAd K ("Chip", some "need_good"))) = true := by
  obtain ⟨fd, F⟩ := c.def_ 10 (d := d_Chip_need_good) rfl
  have FD : FunD K "need_good" "Chip.need_good" (defArgs st_Chip_need_good) (defBody st_Chip_need_good) (defScope st_Chip_need_good) [] [] (He.fAd K ("Chip", some "need_good")) fd := F
  refine ⟨fd, FD.ok (N := ["self", "block"]) (k := 0) sc_Chip_need_good (fun vs H Q E h => by obtain ⟨_, _, _, hh⟩ := h.use; obtain ⟨_, _, _, _, e, _⟩ := hh; rw [e]; rfl) (fun cdv A outer s H vs Q E hr h => ⟨t_Chip_need_good K, PSs.nox ?_, pure_Chip_need_good (t_Chip c) h⟩), FD.bindsN fun _ _ _ _ _ _ us hl => match us, hl with | [_, _], _ => rfl, FD.kp⟩
  exact pss_one (ps_if (pt_val (pe_ix ix_list (pe_fld (pv 0) rfl) (pv 1) (fun _ _ => rfl))) (pss_one (ps_never)) (pss_nil))

theorem sc_Chip_goes_well : FnScope ["self", "block", "worn", "well"] ["self", "block", "worn"] (defScope st_Chip_goes_well) := ⟨rfl, rfl, rfl, by decide +kernel, rfl, by decide +kernel, by decide +kernel⟩
theorem ok_Chip_goes_well (X : K.In h) (G : h.Ns mainGlobals mg) (c : He.SaysD fa fn K) : ∃ fd, FnOk P w K mg base CX0 1 (He.fAd K ("Chip", some "goes_well")) fd ["self", "block", "worn"] (sp_Chip_goes_well K) ∧ Binds K fd ["self", "block", "worn"] [] ∧ PySem.W.keepIn K (.ref (He.fAd K ("Chip", some "goes_well"))) = true := by
  obtain ⟨fd, F⟩ := c.def_ 11 (d := d_Chip_goes_well) rfl
  have FD : FunD K "goes_well" "Chip.goes_well" (defArgs st_Chip_goes_well) (defBody st_Chip_goes_well) (defScope st_Chip_goes_well) [] [] (He.fAd K ("Chip", some "goes_well")) fd := F
  refine ⟨fd, FD.ok (N := ["self", "block", "worn", "well"]) (k := 0) sc_Chip_goes_well (fun vs H Q E h => by obtain ⟨_, _, _, hh⟩ := h.use; obtain ⟨_, _, _, _, _, e, _⟩ := hh; rw [e]; rfl) (fun cdv A outer s H vs Q E hr h => ⟨t_Chip_goes_well K, PSs.nox ?_, pure_Chip_goes_well (t_Chip c) h⟩), FD.bindsN fun _ _ _ _ _ _ us hl => match us, hl with | [_, _, _], _ => rfl, FD.kp⟩
  exact pss_cons (ps_if (pt_cmpR op_notN (pe_fld (pv 0) rfl) (pe_non) (nomark _)) (pss_one (ps_fldaug (pv 0) (pe_int) in_sub)) (pss_nil)) (pss_cons (ps_set (i := 3) sc_Chip_goes_well.nd rfl (Or.inl rfl) (pe_and (pe_not (pv 2)) (pe_one (pe_cmpR op_ne (pe_ix ix_list (pe_fld (pv 0) rfl) (pv 1) (fun _ _ => rfl)) (pe_ix ix_list (pe_fld (pv 0) rfl) (pv 1) (fun _ _ => rfl)) (nomark _))))) (pss_cons (ps_augS (pe_fld (pv 0) rfl) (pv 1) get_list (pe_int) ip_add set_list) (pss_cons (ps_asg (pe_not (pv 3)) (pg_sub (pe_fld (pv 0) rfl) (pv 1) set_list)) (pss_one (ps_ret (pv 3))))))

theorem sc_Chip_put : FnScope ["self", "page", "stuff", "block", "well"] ["self", "page", "stuff"] (defScope st_Chip_put) := ⟨rfl, rfl, rfl, by decide +kernel, rfl, by decide +kernel, by decide +kernel⟩
theorem ok_Chip_put (X : K.In h) (G : h.Ns mainGlobals mg) (c : He.SaysD fa fn K) : ∃ fd, FnOk P w K mg base CX0 4 (He.fAd K ("Chip", some "put")) fd ["self", "page", "stuff"] (sp_Chip_put K) ∧ Binds K fd ["self", "page", "stuff"] [] ∧ PySem.W.keepIn K (.ref (He.fAd K ("Chip", some "put"))) = true := by
  obtain ⟨fd_Chip_need_page, G_Chip_need_page, B_Chip_need_page, KP_Chip_need_page⟩ := ok_Chip_need_page (P := P) (w := w) (base := base) X G c
  obtain ⟨fd_Chip_need_power, G_Chip_need_power, B_Chip_need_power, KP_Chip_need_power⟩ := ok_Chip_need_power (P := P) (w := w) (base := base) X G c
  obtain ⟨fd_Chip_need_good, G_Chip_need_good, B_Chip_need_good, KP_Chip_need_good⟩ := ok_Chip_need_good (P := P) (w := w) (base := base) X G c
  obtain ⟨fd_Chip_goes_well, G_Chip_goes_well, B_Chip_goes_well, KP_Chip_goes_well⟩ := ok_Chip_goes_well (P := P) (w := w) (base := base) X G c
  obtain ⟨fd, F⟩ := c.def_ 12 (d := d_Chip_put) rfl
  have FD : FunD K "put" "Chip.put" (defArgs st_Chip_put) (defBody st_Chip_put) (defScope st_Chip_put) [] [] (He.fAd K ("Chip", some "put")) fd := F
  refine ⟨fd, FD.ok (N := ["self", "page", "stuff", "block", "well"]) (k := 3) sc_Chip_put (fun vs H Q E h => by obtain ⟨_, _, _, hh⟩ := h.use; obtain ⟨_, _, _, _, _, _, e, _⟩ := hh; rw [e]; rfl) (fun cdv A outer s H vs Q E hr h => ⟨t_Chip_put K, PSs.nox ?_, pure_Chip_put (t_Chip c) h⟩), FD.bindsN fun _ _ _ _ _ _ us hl => match us, hl with | [_, _, _], _ => rfl, FD.kp⟩
  exact pss_cons (ps_expr (pe_meth (pv 0) (He.cls_ok (c.fact 37 (f := .cls "Chip") rfl)) (He.meth_ok (c.fact 60 (f := .meth "Chip" "need_page") rfl)) G_Chip_need_page (hr.mono (by decide)) B_Chip_need_page .nil pass0 (pa_cons (pv 1) (pa_nil)))) (pss_cons (ps_expr (pe_meth0 (pv 0) (He.cls_ok (c.fact 37 (f := .cls "Chip") rfl)) (He.meth_ok (c.fact 61 (f := .meth "Chip" "need_power") rfl)) G_Chip_need_power (hr.mono (by decide)) B_Chip_need_power .nil pass0)) (pss_cons (ps_set (i := 3) sc_Chip_put.nd rfl (Or.inl rfl) (pe_op op_fdiv (pv 1) (pe_fld (pv 0) rfl))) (pss_cons (ps_expr (pe_meth (pv 0) (He.cls_ok (c.fact 37 (f := .cls "Chip") rfl)) (He.meth_ok (c.fact 62 (f := .meth "Chip" "need_good") rfl)) G_Chip_need_good (hr.mono (by decide)) B_Chip_need_good .nil pass0 (pa_cons (pv 3) (pa_nil)))) (pss_cons (ps_if (pt_cmpR op_notN (pe_ix ix_list (pe_fld (pv 0) rfl) (pv 1) (fun _ _ => rfl)) (pe_non) (nomark _)) (pss_one (ps_never)) (pss_nil)) (pss_cons (ps_set (i := 4) sc_Chip_put.nd rfl (Or.inl rfl) (pe_meth (pv 0) (He.cls_ok (c.fact 37 (f := .cls "Chip") rfl)) (He.meth_ok (c.fact 63 (f := .meth "Chip" "goes_well") rfl)) G_Chip_goes_well (hr.mono (by decide)) B_Chip_goes_well .nil pass0 (pa_cons (pv 3) (pa_cons (pe_bl) (pa_nil))))) (pss_cons (ps_expr (pe_bm PySem.F.plainAttrs_list PySem.F.slot_list_append PySem.F.type_list_append mt_append (pe_fld (pv 0) rfl) (pa_cons (pe_tup (pa_cons (pe_str) (pa_cons (pv 1) (pa_cons (pv 4) (pa_nil))))) (pa_nil)))) (pss_cons (ps_if (pt_not (pt_val (pv 4))) (pss_one (ps_never)) (pss_nil)) (pss_one (ps_asg (pv 2) (pg_sub (pe_fld (pv 0) rfl) (pv 1) set_list))))))))))

theorem sc_Chip_read : FnScope ["self", "page"] ["self", "page"] (defScope st_Chip_read) := ⟨rfl, rfl, rfl, by decide +kernel, rfl, by decide +kernel, by decide +kernel⟩
theorem ok_Chip_read (X : K.In h) (G : h.Ns mainGlobals mg) (c : He.SaysD fa fn K) : ∃ fd, FnOk P w K mg base CX0 4 (He.fAd K ("Chip", some "read")) fd ["self", "page"] (sp_Chip_read K) ∧ Binds K fd ["self", "page"] [] ∧ PySem.W.keepIn K (.ref (He.fAd K ("Chip", some "read"))) = true := by
  obtain ⟨fd_Chip_need_page, G_Chip_need_page, B_Chip_need_page, KP_Chip_need_page⟩ := ok_Chip_need_page (P := P) (w := w) (base := base) X G c
  obtain ⟨fd_Chip_need_power, G_Chip_need_power, B_Chip_need_power, KP_Chip_need_power⟩ := ok_Chip_need_power (P := P) (w := w) (base := base) X G c
  obtain ⟨fd, F⟩ := c.def_ 13 (d := d_Chip_read) rfl
  have FD : FunD K "read" "Chip.read" (defArgs st_Chip_read) (defBody st_Chip_read) (defScope st_Chip_read) [] [] (He.fAd K ("Chip", some "read")) fd := F
  refine ⟨fd, FD.ok (N := ["self", "page"]) (k := 3) sc_Chip_read (fun vs H Q E h => by obtain ⟨_, _, _, hh⟩ := h.use; obtain ⟨_, _, _, _, e, _⟩ := hh; rw [e]; rfl) (fun cdv A outer s H vs Q E hr h => ⟨t_Chip_read K, PSs.nox ?_, pure_Chip_read (t_Chip c) h⟩), FD.bindsN fun _ _ _ _ _ _ us hl => match us, hl with | [_, _], _ => rfl, FD.kp⟩
  exact pss_cons (ps_expr (pe_meth (pv 0) (He.cls_ok (c.fact 37 (f := .cls "Chip") rfl)) (He.meth_ok (c.fact 60 (f := .meth "Chip" "need_page") rfl)) G_Chip_need_page (hr.mono (by decide)) B_Chip_need_page .nil pass0 (pa_cons (pv 1) (pa_nil)))) (pss_cons (ps_expr (pe_meth0 (pv 0) (He.cls_ok (c.fact 37 (f := .cls "Chip") rfl)) (He.meth_ok (c.fact 61 (f := .meth "Chip" "need_power") rfl)) G_Chip_need_power (hr.mono (by decide)) B_Chip_need_power .nil pass0)) (pss_one (ps_ret (pe_ix ix_list (pe_fld (pv 0) rfl) (pv 1) (fun _ _ => rfl)))))

theorem sc_Chip___init__ : FnScope ["self", "blocks", "pages", "most", "ills"] ["self", "blocks", "pages", "most", "ills"] (defScope st_Chip___init__) := ⟨rfl, rfl, rfl, by decide +kernel, rfl, by decide +kernel, by decide +kernel⟩
theorem ok_Chip___init__ (X : K.In h) (G : h.Ns mainGlobals mg) (c : He.SaysD fa fn K) : ∃ fd, FnOk P w K mg base CX0 3 (He.fAd K ("Chip", some "__init__")) fd ["self", "blocks", "pages", "most", "ills"] (sp_Chip___init__ K) ∧ (∃ ds, Vals [.int 1000000, .non] ds ∧ Binds K fd ["self", "blocks", "pages", "most", "ills"] ds) ∧ PySem.W.keepIn K (.ref (He.fAd K ("Chip", some "__init__"))) = true := by
  obtain ⟨fd_is_within, G_is_within, B_is_within, KP_is_within⟩ := ok_is_within (P := P) (w := w) (base := base) X G c
  obtain ⟨fd_endurance, G_endurance, B_endurance, KP_endurance⟩ := ok_endurance (P := P) (w := w) (base := base) X G c
  obtain ⟨fd, F⟩ := c.def_ 14 (d := d_Chip___init__) rfl
  have FD : FunD K "__init__" "Chip.__init__" (defArgs st_Chip___init__) (defBody st_Chip___init__) (defScope st_Chip___init__) [.int 1000000, .non] [] (He.fAd K ("Chip", some "__init__")) fd := F
  refine ⟨fd, FD.ok (N := ["self", "blocks", "pages", "most", "ills"]) (k := 2) sc_Chip___init__ (fun vs H Q E h => by obtain ⟨_, _, _, hh⟩ := h.use; obtain ⟨_, _, _, _, _, _, e, _⟩ := hh; rw [e]; rfl) (fun cdv A outer s H vs Q E hr h => ⟨t_Chip___init__ K, PSs.nox ?_, pure_Chip___init__ (t_Chip c) h⟩), FD.binds1 3 0 (by simp) rfl (fun _ _ _ _ _ _ _ us its h1 h2 => match us, its, h1, h2 with | [_, _, _], [_, _], _, _ => ⟨_, rfl, rfl⟩), FD.kp⟩
  exact pss_cons (ps_if (PW.pt (pw_or (pt_not (pt_val (pe_call G_is_within (hr.mono (by decide)) rfl ((He.glo_ok X G (c.fact 1 (f := .glo "is_within") rfl))) KP_is_within B_is_within .nil pass0 (pa_cons (pv 1) (pa_cons (pe_int) (pa_cons (pe_gc rfl ((He.int_ok X G (c.fact 34 (f := .int "MANY" (16)) rfl)))) (pa_nil))))))) (pw_or (pt_not (pt_val (pe_call G_is_within (hr.mono (by decide)) rfl ((He.glo_ok X G (c.fact 1 (f := .glo "is_within") rfl))) KP_is_within B_is_within .nil pass0 (pa_cons (pv 2) (pa_cons (pe_int) (pa_cons (pe_gc rfl ((He.int_ok X G (c.fact 34 (f := .int "MANY" (16)) rfl)))) (pa_nil))))))) (pw_or1 (pt_not (pt_val (pe_call G_is_within (hr.mono (by decide)) rfl ((He.glo_ok X G (c.fact 1 (f := .glo "is_within") rfl))) KP_is_within B_is_within .nil pass0 (pa_cons (pv 3) (pa_cons (pe_int) (pa_cons (pe_gc rfl ((He.int_ok X G (c.fact 35 (f := .int "MOST" (1000000)) rfl)))) (pa_nil))))))))))) (pss_one (ps_never)) (pss_nil)) (pss_cons (ps_fld (pv 0) (pv 1) rfl) (pss_cons (ps_fld (pv 0) (pv 2) rfl) (pss_cons (ps_fld (pv 0) (pv 3) rfl) (pss_cons (ps_fld (pv 0) (pe_call G_endurance (hr.mono (by decide)) rfl ((He.glo_ok X G (c.fact 2 (f := .glo "endurance") rfl))) KP_endurance B_endurance .nil pass0 (pa_cons (pv 1) (pa_cons (pv 4) (pa_nil)))) rfl) (pss_cons (ps_fld (pv 0) (pe_op op_rep (pe_lst (pa_cons (pe_non) (pa_nil))) (pe_op op_mul (pv 1) (pv 2))) rfl) (pss_cons (ps_fld (pv 0) (pe_op op_rep (pe_lst (pa_cons (pe_int) (pa_nil))) (pv 1)) rfl) (pss_cons (ps_fld (pv 0) (pe_op op_rep (pe_lst (pa_cons (pe_int) (pa_nil))) (pv 1)) rfl) (pss_cons (ps_fld (pv 0) (pe_op op_rep (pe_lst (pa_cons (pe_bl) (pa_nil))) (pv 1)) rfl) (pss_cons (ps_fld (pv 0) (pe_non) rfl) (pss_one (ps_fld (pv 0) (pe_lst (pa_nil)) rfl)))))))))))

theorem sc_Book___init__ : FnScope ["self", "blocks", "pages"] ["self", "blocks", "pages"] (defScope st_Book___init__) := ⟨rfl, rfl, rfl, by decide +kernel, rfl, by decide +kernel, by decide +kernel⟩
theorem ok_Book___init__ (X : K.In h) (G : h.Ns mainGlobals mg) (c : He.SaysD fa fn K) : ∃ fd, FnOk P w K mg base CX0 1 (He.fAd K ("Book", some "__init__")) fd ["self", "blocks", "pages"] (sp_Book___init__ K) ∧ Binds K fd ["self", "blocks", "pages"] [] ∧ PySem.W.keepIn K (.ref (He.fAd K ("Book", some "__init__"))) = true := by
  obtain ⟨fd, F⟩ := c.def_ 15 (d := d_Book___init__) rfl
  have FD : FunD K "__init__" "Book.__init__" (defArgs st_Book___init__) (defBody st_Book___init__) (defScope st_Book___init__) [] [] (He.fAd K ("Book", some "__init__")) fd := F
  refine ⟨fd, FD.ok (N := ["self", "blocks", "pages"]) (k := 0) sc_Book___init__ (fun vs H Q E h => by obtain ⟨_, _, _, hh⟩ := h.use; obtain ⟨_, _, _, _, e, _⟩ := hh; rw [e]; rfl) (fun cdv A outer s H vs Q E hr h => ⟨t_Book___init__ K, PSs.nox ?_, pure_Book___init__ (t_Book c) h⟩), FD.bindsN fun _ _ _ _ _ _ us hl => match us, hl with | [_, _, _], _ => rfl, FD.kp⟩
  exact pss_cons (ps_fld (pv 0) (pv 1) rfl) (pss_cons (ps_fld (pv 0) (pv 2) rfl) (pss_cons (ps_fld (pv 0) (pe_dnewK) rfl) (pss_cons (ps_fld (pv 0) (pe_op op_rep (pe_lst (pa_cons (pe_non) (pa_nil))) (pe_op op_mul (pv 1) (pv 2))) rfl) (pss_cons (ps_fld (pv 0) (pe_op op_rep (pe_lst (pa_cons (pe_int) (pa_nil))) (pv 1)) rfl) (pss_cons (ps_fld (pv 0) (pe_op op_rep (pe_lst (pa_cons (pe_int) (pa_nil))) (pv 1)) rfl) (pss_cons (ps_fld (pv 0) (pe_op op_rep (pe_lst (pa_cons (pe_int) (pa_nil))) (pv 1)) rfl) (pss_one (ps_fld (pv 0) (pe_int) rfl))))))))

theorem sc_Book_start_at : FnScope ["self", "stamp"] ["self", "stamp"] (defScope st_Book_start_at) := ⟨rfl, rfl, rfl, by decide +kernel, rfl, by decide +kernel, by decide +kernel⟩
theorem ok_Book_start_at (X : K.In h) (G : h.Ns mainGlobals mg) (c : He.SaysD fa fn K) : ∃ fd, FnOk P w K mg base CX0 1 (He.fAd K ("Book", some "start_at")) fd ["self", "stamp"] (sp_Book_start_at K) ∧ Binds K fd ["self", "stamp"] [] ∧ PySem.W.keepIn K (.ref (He.fAd K ("Book", some "start_at"))) = true := by
  obtain ⟨fd, F⟩ := c.def_ 16 (d := d_Book_start_at) rfl
  have FD : FunD K "start_at" "Book.start_at" (defArgs st_Book_start_at) (defBody st_Book_start_at) (defScope st_Book_start_at) [] [] (He.fAd K ("Book", some "start_at")) fd := F
  refine ⟨fd, FD.ok (N := ["self", "stamp"]) (k := 0) sc_Book_start_at (fun vs H Q E h => by obtain ⟨_, _, _, hh⟩ := h.use; obtain ⟨_, _, _, _, e, _⟩ := hh; rw [e]; rfl) (fun cdv A outer s H vs Q E hr h => ⟨t_Book_start_at K, PSs.nox ?_, pure_Book_start_at (t_Book c) h⟩), FD.bindsN fun _ _ _ _ _ _ us hl => match us, hl with | [_, _], _ => rfl, FD.kp⟩
  exact pss_one (ps_fld (pv 0) (pv 1) rfl)

theorem sc_Book_held : FnScope ["self", "name"] ["self"] (defScope st_Book_held) := ⟨rfl, rfl, rfl, by decide +kernel, rfl, by decide +kernel, by decide +kernel⟩
theorem ok_Book_held (X : K.In h) (G : h.Ns mainGlobals mg) (c : He.SaysD fa fn K) : ∃ fd, FnOk P w K mg base CX0 1 (He.fAd K ("Book", some "held")) fd ["self"] (sp_Book_held K) ∧ Binds K fd ["self"] [] ∧ PySem.W.keepIn K (.ref (He.fAd K ("Book", some "held"))) = true := by
  obtain ⟨fd, F⟩ := c.def_ 17 (d := d_Book_held) rfl
  have FD : FunD K "held" "Book.held" (defArgs st_Book_held) (defBody st_Book_held) (defScope st_Book_held) [] [] (He.fAd K ("Book", some "held")) fd := F
  refine ⟨fd, FD.ok (N := ["self", "name"]) (k := 0) sc_Book_held (fun vs H Q E h => by obtain ⟨_, _, _, hh⟩ := h.use; obtain ⟨_, _, _, e, _⟩ := hh; rw [e]; rfl) (fun cdv A outer s H vs Q E hr h => ⟨t_Book_held K, PSs.nox ?_, pure_Book_held (t_Book c) h⟩), FD.bindsN fun _ _ _ _ _ _ us hl => match us, hl with | [_], _ => rfl, FD.kp⟩
  exact pss_one (ps_ret (pe_callB cr_sortedI (by rfl) ((He.free_ok X G (c.fact 30 (f := .free "sorted") rfl))) (by decide +kernel) (pa_cons (pe_lock (pe_lc (own := ([("name", 1)] : List (Str × Nat))) (g := gName 1) (tt := tTest (tOp rNe (tVar 1) (tC (.int (64))))) rfl sc_Book_held.nd (pi_keys (pe_fld (pv 0) rfl)) (blkOk_by (N := ["self", "name"]) (sc := defScope st_Book_held) (by decide +kernel)) (fun _ _ _ _ _ => pg_name (i := 1) sc_Book_held.nd rfl (Or.inl rfl)) (fun _ _ _ _ _ => pts_one (pt_cmpR op_ne (pv 1) (pe_gc rfl ((He.int_ok X G (c.fact 36 (f := .int "ROLL" (64)) rfl)))) (nomark _))) (fun _ _ _ _ _ => pv 1))) (pa_nil))))

theorem sc_Book_forget : FnScope ["self", "name", "page"] ["self", "name"] (defScope st_Book_forget) := ⟨rfl, rfl, rfl, by decide +kernel, rfl, by decide +kernel, by decide +kernel⟩
theorem ok_Book_forget (X : K.In h) (G : h.Ns mainGlobals mg) (c : He.SaysD fa fn K) : ∃ fd, FnOk P w K mg base CX0 1 (He.fAd K ("Book", some "forget")) fd ["self", "name"] (sp_Book_forget K) ∧ Binds K fd ["self", "name"] [] ∧ PySem.W.keepIn K (.ref (He.fAd K ("Book", some "forget"))) = true := by
  obtain ⟨fd, F⟩ := c.def_ 18 (d := d_Book_forget) rfl
  have FD : FunD K "forget" "Book.forget" (defArgs st_Book_forget) (defBody st_Book_forget) (defScope st_Book_forget) [] [] (He.fAd K ("Book", some "forget")) fd := F
  refine ⟨fd, FD.ok (N := ["self", "name", "page"]) (k := 0) sc_Book_forget (fun vs H Q E h => by obtain ⟨_, _, _, hh⟩ := h.use; obtain ⟨_, _, _, _, e, _⟩ := hh; rw [e]; rfl) (fun cdv A outer s H vs Q E hr h => ⟨t_Book_forget K, PSs.nox ?_, pure_Book_forget (t_Book c) h⟩), FD.bindsN fun _ _ _ _ _ _ us hl => match us, hl with | [_, _], _ => rfl, FD.kp⟩
  exact pss_one (ps_if (pt_cmp (pc_din (roomU hr) (pv 1) (pe_fld (pv 0) rfl))) (pss_cons (ps_set (i := 2) sc_Book_forget.nd rfl (Or.inl rfl) (pe_dpop1 (pe_fld (pv 0) rfl) (pv 1) ⟨rfl, rfl, rfl, rfl⟩)) (pss_cons (ps_asg (pe_non) (pg_sub (pe_fld (pv 0) rfl) (pv 2) set_list)) (pss_one (ps_augS (pe_fld (pv 0) rfl) (pe_op op_fdiv (pv 2) (pe_fld (pv 0) rfl)) get_list (pe_int) ip_sub set_list)))) (pss_nil))

theorem sc_Book_note : FnScope ["self", "page", "name", "block"] ["self", "page", "name"] (defScope st_Book_note) := ⟨rfl, rfl, rfl, by decide +kernel, rfl, by decide +kernel, by decide +kernel⟩
theorem ok_Book_note (X : K.In h) (G : h.Ns mainGlobals mg) (c : He.SaysD fa fn K) : ∃ fd, FnOk P w K mg base CX0 2 (He.fAd K ("Book", some "note")) fd ["self", "page", "name"] (sp_Book_note K) ∧ Binds K fd ["self", "page", "name"] [] ∧ PySem.W.keepIn K (.ref (He.fAd K ("Book", some "note"))) = true := by
  obtain ⟨fd_Book_forget, G_Book_forget, B_Book_forget, KP_Book_forget⟩ := ok_Book_forget (P := P) (w := w) (base := base) X G c
  obtain ⟨fd, F⟩ := c.def_ 19 (d := d_Book_note) rfl
  have FD : FunD K "note" "Book.note" (defArgs st_Book_note) (defBody st_Book_note) (defScope st_Book_note) [] [] (He.fAd K ("Book", some "note")) fd := F
  refine ⟨fd, FD.ok (N := ["self", "page", "name", "block"]) (k := 1) sc_Book_note (fun vs H Q E h => by obtain ⟨_, _, _, hh⟩ := h.use; obtain ⟨_, _, _, _, _, e, _⟩ := hh; rw [e]; rfl) (fun cdv A outer s H vs Q E hr h => ⟨t_Book_note K, PSs.nox ?_, pure_Book_note (t_Book c) h⟩), FD.bindsN fun _ _ _ _ _ _ us hl => match us, hl with | [_, _, _], _ => rfl, FD.kp⟩
  exact pss_cons (ps_expr (pe_meth (pv 0) (He.cls_ok (c.fact 48 (f := .cls "Book") rfl)) (He.meth_ok (c.fact 64 (f := .meth "Book" "forget") rfl)) G_Book_forget (hr.mono (by decide)) B_Book_forget .nil pass0 (pa_cons (pv 2) (pa_nil)))) (pss_cons (ps_set (i := 3) sc_Book_note.nd rfl (Or.inl rfl) (pe_op op_fdiv (pv 1) (pe_fld (pv 0) rfl))) (pss_cons (ps_if (pt_cmpR op_eq (pe_ix ix_list (pe_fld (pv 0) rfl) (pv 3) (fun _ _ => rfl)) (pe_int) (nomark _)) (pss_one (ps_asg (pe_fld (pv 0) rfl) (pg_sub (pe_fld (pv 0) rfl) (pv 3) set_list))) (pss_nil)) (pss_cons (ps_augS (pe_fld (pv 0) rfl) (pv 3) get_list (pe_int) ip_add set_list) (pss_cons (ps_augS (pe_fld (pv 0) rfl) (pv 3) get_list (pe_int) ip_add set_list) (pss_cons (ps_asg (pv 2) (pg_sub (pe_fld (pv 0) rfl) (pv 1) set_list)) (pss_cons (ps_dput (roomU hr) (pe_fld (pv 0) rfl) (pv 2) (pv 1) rfl) (pss_one (ps_fldaug (pv 0) (pe_int) in_add))))))))

theorem sc_rows_by_stamp : FnScope ["chip", "found", "page", "stuff"] ["chip"] (defScope st_rows_by_stamp) := ⟨rfl, rfl, rfl, by decide +kernel, rfl, by decide +kernel, by decide +kernel⟩
theorem ok_rows_by_stamp (X : K.In h) (G : h.Ns mainGlobals mg) (c : He.SaysD fa fn K) : ∃ fd, FnOk P w K mg base CX0 5 (He.fAd K ("rows_by_stamp", none)) fd ["chip"] (sp_rows_by_stamp K) ∧ Binds K fd ["chip"] [] ∧ PySem.W.keepIn K (.ref (He.fAd K ("rows_by_stamp", none))) = true := by
  obtain ⟨fd_Chip_read, G_Chip_read, B_Chip_read, KP_Chip_read⟩ := ok_Chip_read (P := P) (w := w) (base := base) X G c
  obtain ⟨fd_stamp_of, G_stamp_of, B_stamp_of, KP_stamp_of⟩ := ok_stamp_of (P := P) (w := w) (base := base) X G c
  obtain ⟨fd_name_of, G_name_of, B_name_of, KP_name_of⟩ := ok_name_of (P := P) (w := w) (base := base) X G c
  obtain ⟨fd, F⟩ := c.def_ 20 (d := d_rows_by_stamp) rfl
  have FD : FunD K "rows_by_stamp" "rows_by_stamp" (defArgs st_rows_by_stamp) (defBody st_rows_by_stamp) (defScope st_rows_by_stamp) [] [] (He.fAd K ("rows_by_stamp", none)) fd := F
  refine ⟨fd, FD.ok (N := ["chip", "found", "page", "stuff"]) (k := 4) sc_rows_by_stamp (fun vs H Q E h => by obtain ⟨_, _, _, hh⟩ := h.use; obtain ⟨_, _, _, e, _⟩ := hh; rw [e]; rfl) (fun cdv A outer s H vs Q E hr h => ⟨t_rows_by_stamp K, PSs.nox ?_, pure_rows_by_stamp (t_Chip c) h⟩), FD.bindsN fun _ _ _ _ _ _ us hl => match us, hl with | [_], _ => rfl, FD.kp⟩
  exact pss_cons (ps_set (i := 1) sc_rows_by_stamp.nd rfl (Or.inl rfl) (pe_lst (pa_nil))) (pss_cons (ps_for PassesOwn.never rfl (pi_range1 rfl ((He.free_ok X G (c.fact 31 (f := .free "range") rfl))) (pa_cons (pe_op op_mul (pe_fld (pv 0) rfl) (pe_fld (pv 0) rfl)) (pa_nil))) (pg_name (i := 2) sc_rows_by_stamp.nd rfl (Or.inl rfl)) (pss_cons (ps_set (i := 3) sc_rows_by_stamp.nd rfl (Or.inl rfl) (pe_meth (pv 0) (He.cls_ok (c.fact 37 (f := .cls "Chip") rfl)) (He.meth_ok (c.fact 65 (f := .meth "Chip" "read") rfl)) G_Chip_read (hr.mono (by decide)) B_Chip_read .nil pass0 (pa_cons (pv 2) (pa_nil)))) (pss_one (ps_if (pt_cmpR op_notN (pv 3) (pe_non) (nomark _)) (pss_one (ps_expr (pe_bm PySem.F.plainAttrs_list PySem.F.slot_list_append PySem.F.type_list_append mt_append (pv 1) (pa_cons (pe_tup (pa_cons (pe_call G_stamp_of (hr.mono (by decide)) rfl ((He.glo_ok X G (c.fact 3 (f := .glo "stamp_of") rfl))) KP_stamp_of B_stamp_of .nil pass0 (pa_cons (pe_ix ix_tup (pv 3) (pe_int) (fun _ _ => rfl)) (pa_nil))) (pa_cons (pv 2) (pa_cons (pe_call G_name_of (hr.mono (by decide)) rfl ((He.glo_ok X G (c.fact 4 (f := .glo "name_of") rfl))) KP_name_of B_name_of .nil pass0 (pa_cons (pe_ix ix_tup (pv 3) (pe_int) (fun _ _ => rfl)) (pa_nil))) (pa_cons (pe_ix ix_tup (pv 3) (pe_int) (fun _ _ => rfl)) (pa_nil)))))) (pa_nil))))) (pss_nil))))) (pss_one (ps_ret (pe_callB (cr_sortT (d := 4) (B := sortB) (by decide)) (by rfl) ((He.free_ok X G (c.fact 30 (f := .free "sorted") rfl))) (by decide +kernel) (pa_cons (pv 1) (pa_nil))))))

theorem sc_stamp_of_roll : FnScope ["rows", "newest", "stamp", "page", "name", "value"] ["rows"] (defScope st_stamp_of_roll) := ⟨rfl, rfl, rfl, by decide +kernel, rfl, by decide +kernel, by decide +kernel⟩
theorem ok_stamp_of_roll (X : K.In h) (G : h.Ns mainGlobals mg) (c : He.SaysD fa fn K) : ∃ fd, FnOk P w K mg base CX0 1 (He.fAd K ("stamp_of_roll", none)) fd ["rows"] (sp_stamp_of_roll K) ∧ Binds K fd ["rows"] [] ∧ PySem.W.keepIn K (.ref (He.fAd K ("stamp_of_roll", none))) = true := by
  obtain ⟨fd, F⟩ := c.def_ 21 (d := d_stamp_of_roll) rfl
  have FD : FunD K "stamp_of_roll" "stamp_of_roll" (defArgs st_stamp_of_roll) (defBody st_stamp_of_roll) (defScope st_stamp_of_roll) [] [] (He.fAd K ("stamp_of_roll", none)) fd := F
  refine ⟨fd, FD.ok (N := ["rows", "newest", "stamp", "page", "name", "value"]) (k := 0) sc_stamp_of_roll (fun vs H Q E h => by obtain ⟨_, _, _, hh⟩ := h.use; obtain ⟨_, _, _, e, _⟩ := hh; rw [e]; rfl) (fun cdv A outer s H vs Q E hr h => ⟨t_stamp_of_roll K, PSs.nox ?_, pure_stamp_of_roll  h⟩), FD.bindsN fun _ _ _ _ _ _ us hl => match us, hl with | [_], _ => rfl, FD.kp⟩
  exact pss_cons (ps_set (i := 1) sc_stamp_of_roll.nd rfl (Or.inl rfl) (pe_int)) (pss_cons (ps_for PassesOwn.never rfl (pi_list (pv 0)) (pg_tup rfl (pgs_cons (pg_name (i := 2) sc_stamp_of_roll.nd rfl (Or.inl rfl)) (pgs_cons (pg_name (i := 3) sc_stamp_of_roll.nd rfl (Or.inl rfl)) (pgs_cons (pg_name (i := 4) sc_stamp_of_roll.nd rfl (Or.inl rfl)) (pgs_cons (pg_name (i := 5) sc_stamp_of_roll.nd rfl (Or.inl rfl)) (pgs_nil)))))) (pss_one (ps_if (pt_cmpR op_eq (pv 4) (pe_gc rfl ((He.int_ok X G (c.fact 36 (f := .int "ROLL" (64)) rfl)))) (nomark _)) (pss_one (ps_set (i := 1) sc_stamp_of_roll.nd rfl (Or.inl rfl) (pv 2))) (pss_nil)))) (pss_one (ps_ret (pv 1))))

theorem sc_book_of : FnScope ["chip", "book", "rows", "newest", "stamp", "page", "name", "value", "kept", "sheet"] ["chip"] (defScope st_book_of) := ⟨rfl, rfl, rfl, by decide +kernel, rfl, by decide +kernel, by decide +kernel⟩
theorem ok_book_of (X : K.In h) (G : h.Ns mainGlobals mg) (c : He.SaysD fa fn K) : ∃ fd, FnOk P w K mg base CX0 6 (He.fAd K ("book_of", none)) fd ["chip"] (sp_book_of K) ∧ Binds K fd ["chip"] [] ∧ PySem.W.keepIn K (.ref (He.fAd K ("book_of", none))) = true := by
  obtain ⟨fd_Book___init__, G_Book___init__, B_Book___init__, KP_Book___init__⟩ := ok_Book___init__ (P := P) (w := w) (base := base) X G c
  obtain ⟨fd_rows_by_stamp, G_rows_by_stamp, B_rows_by_stamp, KP_rows_by_stamp⟩ := ok_rows_by_stamp (P := P) (w := w) (base := base) X G c
  obtain ⟨fd_stamp_of_roll, G_stamp_of_roll, B_stamp_of_roll, KP_stamp_of_roll⟩ := ok_stamp_of_roll (P := P) (w := w) (base := base) X G c
  obtain ⟨fd_Book_start_at, G_Book_start_at, B_Book_start_at, KP_Book_start_at⟩ := ok_Book_start_at (P := P) (w := w) (base := base) X G c
  obtain ⟨fd_Book_note, G_Book_note, B_Book_note, KP_Book_note⟩ := ok_Book_note (P := P) (w := w) (base := base) X G c
  obtain ⟨fd_sheets_of, G_sheets_of, B_sheets_of, KP_sheets_of⟩ := ok_sheets_of (P := P) (w := w) (base := base) X G c
  obtain ⟨fd_Book_held, G_Book_held, B_Book_held, KP_Book_held⟩ := ok_Book_held (P := P) (w := w) (base := base) X G c
  obtain ⟨fd_Book_forget, G_Book_forget, B_Book_forget, KP_Book_forget⟩ := ok_Book_forget (P := P) (w := w) (base := base) X G c
  obtain ⟨fd, F⟩ := c.def_ 22 (d := d_book_of) rfl
  have FD : FunD K "book_of" "book_of" (defArgs st_book_of) (defBody st_book_of) (defScope st_book_of) [] [] (He.fAd K ("book_of", none)) fd := F
  refine ⟨fd, FD.ok (N := ["chip", "book", "rows", "newest", "stamp", "page", "name", "value", "kept", "sheet"]) (k := 5) sc_book_of (fun vs H Q E h => by obtain ⟨_, _, _, hh⟩ := h.use; obtain ⟨_, _, _, e, _⟩ := hh; rw [e]; rfl) (fun cdv A outer s H vs Q E hr h => ⟨t_book_of K, PSs.nox ?_, pure_book_of (t_Chip c) h⟩), FD.bindsN fun _ _ _ _ _ _ us hl => match us, hl with | [_], _ => rfl, FD.kp⟩
  exact pss_cons (ps_set (i := 1) sc_book_of.nd rfl (Or.inl rfl) (pe_make (He.mkr_ok (c.fact 57 (f := .mkr "Book") rfl)) G_Book___init__ (hr.mono (by decide)) rfl ((He.glo_ok X G (c.fact 5 (f := .glo "Book") rfl))) B_Book___init__ .nil pass0 (pa_cons (pe_fld (pv 0) rfl) (pa_cons (pe_fld (pv 0) rfl) (pa_nil))))) (pss_cons (ps_set (i := 2) sc_book_of.nd rfl (Or.inl rfl) (pe_call G_rows_by_stamp (hr.mono (by decide)) rfl ((He.glo_ok X G (c.fact 6 (f := .glo "rows_by_stamp") rfl))) KP_rows_by_stamp B_rows_by_stamp .nil pass0 (pa_cons (pv 0) (pa_nil)))) (pss_cons (ps_set (i := 3) sc_book_of.nd rfl (Or.inl rfl) (pe_call G_stamp_of_roll (hr.mono (by decide)) rfl ((He.glo_ok X G (c.fact 7 (f := .glo "stamp_of_roll") rfl))) KP_stamp_of_roll B_stamp_of_roll .nil pass0 (pa_cons (pv 2) (pa_nil)))) (pss_cons (ps_for PassesOwn.never rfl (pi_list (pv 2)) (pg_tup rfl (pgs_cons (pg_name (i := 4) sc_book_of.nd rfl (Or.inl rfl)) (pgs_cons (pg_name (i := 5) sc_book_of.nd rfl (Or.inl rfl)) (pgs_cons (pg_name (i := 6) sc_book_of.nd rfl (Or.inl rfl)) (pgs_cons (pg_name (i := 7) sc_book_of.nd rfl (Or.inl rfl)) (pgs_nil)))))) (pss_cons (ps_expr (pe_meth (pv 1) (He.cls_ok (c.fact 48 (f := .cls "Book") rfl)) (He.meth_ok (c.fact 66 (f := .meth "Book" "start_at") rfl)) G_Book_start_at (hr.mono (by decide)) B_Book_start_at .nil pass0 (pa_cons (pv 4) (pa_nil)))) (pss_cons (ps_expr (pe_meth (pv 1) (He.cls_ok (c.fact 48 (f := .cls "Book") rfl)) (He.meth_ok (c.fact 67 (f := .meth "Book" "note") rfl)) G_Book_note (hr.mono (by decide)) B_Book_note .nil pass0 (pa_cons (pv 5) (pa_cons (pv 6) (pa_nil))))) (pss_one (ps_if (pt_cmpR op_eq (pv 4) (pv 3) (nomark _)) (pss_cons (ps_set (i := 8) sc_book_of.nd rfl (Or.inl rfl) (pe_call G_sheets_of (hr.mono (by decide)) rfl ((He.glo_ok X G (c.fact 8 (f := .glo "sheets_of") rfl))) KP_sheets_of B_sheets_of .nil pass0 (pa_cons (pv 7) (pa_nil)))) (pss_one (ps_for PassesOwn.never rfl (pi_list (pe_meth0 (pv 1) (He.cls_ok (c.fact 48 (f := .cls "Book") rfl)) (He.meth_ok (c.fact 68 (f := .meth "Book" "held") rfl)) G_Book_held (hr.mono (by decide)) B_Book_held .nil pass0)) (pg_name (i := 9) sc_book_of.nd rfl (Or.inl rfl)) (pss_one (ps_if (pt_cmpR op_notIn_seq (pv 9) (pv 8) (by with_unfolding_all rfl)) (pss_one (ps_expr (pe_meth (pv 1) (He.cls_ok (c.fact 48 (f := .cls "Book") rfl)) (He.meth_ok (c.fact 64 (f := .meth "Book" "forget") rfl)) G_Book_forget (hr.mono (by decide)) B_Book_forget .nil pass0 (pa_cons (pv 9) (pa_nil))))) (pss_nil)))))) (pss_nil)))))) (pss_one (ps_ret (pv 1))))))

theorem sc_fault : FnScope ["chip", "book", "sheet", "page", "stuff"] ["chip", "book", "sheet", "page"] (defScope st_fault) := ⟨rfl, rfl, rfl, by decide +kernel, rfl, by decide +kernel, by decide +kernel⟩
theorem ok_fault (X : K.In h) (G : h.Ns mainGlobals mg) (c : He.SaysD fa fn K) : ∃ fd, FnOk P w K mg base CX0 5 (He.fAd K ("fault", none)) fd ["chip", "book", "sheet", "page"] (sp_fault K) ∧ Binds K fd ["chip", "book", "sheet", "page"] [] ∧ PySem.W.keepIn K (.ref (He.fAd K ("fault", none))) = true := by
  obtain ⟨fd_is_within, G_is_within, B_is_within, KP_is_within⟩ := ok_is_within (P := P) (w := w) (base := base) X G c
  obtain ⟨fd_Chip_read, G_Chip_read, B_Chip_read, KP_Chip_read⟩ := ok_Chip_read (P := P) (w := w) (base := base) X G c
  obtain ⟨fd_name_of, G_name_of, B_name_of, KP_name_of⟩ := ok_name_of (P := P) (w := w) (base := base) X G c
  obtain ⟨fd, F⟩ := c.def_ 23 (d := d_fault) rfl
  have FD : FunD K "fault" "fault" (defArgs st_fault) (defBody st_fault) (defScope st_fault) [] [] (He.fAd K ("fault", none)) fd := F
  refine ⟨fd, FD.ok (N := ["chip", "book", "sheet", "page", "stuff"]) (k := 4) sc_fault (fun vs H Q E h => by obtain ⟨_, _, _, hh⟩ := h.use; obtain ⟨_, _, _, _, _, _, _, _, e, _⟩ := hh; rw [e]; rfl) (fun cdv A outer s H vs Q E hr h => ⟨t_fault K, PSs.nox ?_, pure_fault (t_Book c) (t_Chip c) h⟩), FD.bindsN fun _ _ _ _ _ _ us hl => match us, hl with | [_, _, _, _], _ => rfl, FD.kp⟩
  exact pss_cons (ps_if (pt_not (pt_val (pe_call G_is_within (hr.mono (by decide)) rfl ((He.glo_ok X G (c.fact 1 (f := .glo "is_within") rfl))) KP_is_within B_is_within .nil pass0 (pa_cons (pv 3) (pa_cons (pe_int) (pa_cons (pe_op op_sub (pe_op op_mul (pe_fld (pv 0) rfl) (pe_fld (pv 0) rfl)) (pe_int)) (pa_nil))))))) (pss_one (ps_ret (pe_str))) (pss_nil)) (pss_cons (ps_set (i := 4) sc_fault.nd rfl (Or.inl rfl) (pe_meth (pv 0) (He.cls_ok (c.fact 37 (f := .cls "Chip") rfl)) (He.meth_ok (c.fact 65 (f := .meth "Chip" "read") rfl)) G_Chip_read (hr.mono (by decide)) B_Chip_read .nil pass0 (pa_cons (pv 3) (pa_nil)))) (pss_cons (ps_if (pt_cmpR op_isN (pv 4) (pe_non) (nomark _)) (pss_one (ps_ret (pe_str))) (pss_nil)) (pss_cons (ps_if (pt_cmpR op_ne (pe_call G_name_of (hr.mono (by decide)) rfl ((He.glo_ok X G (c.fact 4 (f := .glo "name_of") rfl))) KP_name_of B_name_of .nil pass0 (pa_cons (pe_ix ix_tup (pv 4) (pe_int) (fun _ _ => rfl)) (pa_nil))) (pv 2) (nomark _)) (pss_one (ps_ret (pe_str))) (pss_nil)) (pss_cons (ps_if (pt_cmp (pc_dnotin (roomU hr) (pv 2) (pe_fld (pv 1) rfl))) (pss_one (ps_ret (pe_str))) (pss_nil)) (pss_cons (ps_if (pt_cmpR op_ne (pe_dget (roomU hr) (pe_fld (pv 1) rfl) (pv 2) (fun _ _ => rfl)) (pv 3) (nomark _)) (pss_one (ps_ret (pe_str))) (pss_nil)) (pss_one (ps_ret (pe_non))))))))

theorem sc_faults : FnScope ["chip", "told", "book", "found", "known", "sheet", "page", "sort"] ["chip", "told"] (defScope st_faults) := ⟨rfl, rfl, rfl, by decide +kernel, rfl, by decide +kernel, by decide +kernel⟩
theorem ok_faults (X : K.In h) (G : h.Ns mainGlobals mg) (c : He.SaysD fa fn K) : ∃ fd, FnOk P w K mg base CX0 7 (He.fAd K ("faults", none)) fd ["chip", "told"] (sp_faults K) ∧ Binds K fd ["chip", "told"] [] ∧ PySem.W.keepIn K (.ref (He.fAd K ("faults", none))) = true := by
  obtain ⟨fd_book_of, G_book_of, B_book_of, KP_book_of⟩ := ok_book_of (P := P) (w := w) (base := base) X G c
  obtain ⟨fd_fault, G_fault, B_fault, KP_fault⟩ := ok_fault (P := P) (w := w) (base := base) X G c
  obtain ⟨fd_Book_held, G_Book_held, B_Book_held, KP_Book_held⟩ := ok_Book_held (P := P) (w := w) (base := base) X G c
  obtain ⟨fd, F⟩ := c.def_ 24 (d := d_faults) rfl
  have FD : FunD K "faults" "faults" (defArgs st_faults) (defBody st_faults) (defScope st_faults) [] [] (He.fAd K ("faults", none)) fd := F
  refine ⟨fd, FD.ok (N := ["chip", "told", "book", "found", "known", "sheet", "page", "sort"]) (k := 6) sc_faults (fun vs H Q E h => by obtain ⟨_, _, _, hh⟩ := h.use; obtain ⟨_, _, _, _, _, _, e, _⟩ := hh; rw [e]; rfl) (fun cdv A outer s H vs Q E hr h => ⟨t_faults K, PSs.nox ?_, pure_faults (t_Book c) h⟩), FD.bindsN fun _ _ _ _ _ _ us hl => match us, hl with | [_, _], _ => rfl, FD.kp⟩
  exact pss_cons (ps_set (i := 2) sc_faults.nd rfl (Or.inl rfl) (pe_call G_book_of (hr.mono (by decide)) rfl ((He.glo_ok X G (c.fact 9 (f := .glo "book_of") rfl))) KP_book_of B_book_of .nil pass0 (pa_cons (pv 0) (pa_nil)))) (pss_cons (ps_set (i := 3) sc_faults.nd rfl (Or.inl rfl) (pe_lst (pa_nil))) (pss_cons (ps_set (i := 4) sc_faults.nd rfl (Or.inl rfl) (pe_dnewK)) (pss_cons (ps_for PassesOwn.never rfl (pi_list (pv 1)) (pg_tup rfl (pgs_cons (pg_name (i := 5) sc_faults.nd rfl (Or.inl rfl)) (pgs_cons (pg_name (i := 6) sc_faults.nd rfl (Or.inl rfl)) (pgs_nil)))) (pss_cons (ps_set (i := 7) sc_faults.nd rfl (Or.inl rfl) (pe_call G_fault (hr.mono (by decide)) rfl ((He.glo_ok X G (c.fact 10 (f := .glo "fault") rfl))) KP_fault B_fault .nil pass0 (pa_cons (pv 0) (pa_cons (pv 2) (pa_cons (pv 5) (pa_cons (pv 6) (pa_nil))))))) (pss_cons (ps_if (pt_cmp (pc_din (roomU hr) (pv 5) (pv 4))) (pss_one (ps_set (i := 7) sc_faults.nd rfl (Or.inl rfl) (pe_str))) (pss_nil)) (pss_cons (ps_if (pt_cmpR op_notN (pv 7) (pe_non) (nomark _)) (pss_one (ps_expr (pe_bm PySem.F.plainAttrs_list PySem.F.slot_list_append PySem.F.type_list_append mt_append (pv 3) (pa_cons (pe_tup (pa_cons (pv 5) (pa_cons (pv 6) (pa_cons (pv 7) (pa_nil))))) (pa_nil))))) (pss_nil)) (pss_one (ps_dput (roomU hr) (pv 4) (pv 5) (pe_bl) rfl)))))) (pss_cons (ps_for PassesOwn.never rfl (pi_list (pe_meth0 (pv 2) (He.cls_ok (c.fact 48 (f := .cls "Book") rfl)) (He.meth_ok (c.fact 68 (f := .meth "Book" "held") rfl)) G_Book_held (hr.mono (by decide)) B_Book_held .nil pass0)) (pg_name (i := 5) sc_faults.nd rfl (Or.inl rfl)) (pss_one (ps_if (pt_cmp (pc_dnotin (roomU hr) (pv 5) (pv 4))) (pss_one (ps_expr (pe_bm PySem.F.plainAttrs_list PySem.F.slot_list_append PySem.F.type_list_append mt_append (pv 3) (pa_cons (pe_tup (pa_cons (pv 5) (pa_cons (pe_dget (roomU hr) (pe_fld (pv 2) rfl) (pv 5) (fun _ _ => rfl)) (pa_cons (pe_str) (pa_nil))))) (pa_nil))))) (pss_nil)))) (pss_one (ps_ret (pv 3)))))))

theorem sc__law_cell_at : FnScope ["_law_script", "_law_k"] ["_law_script", "_law_k"] (defScope st__law_cell_at) := ⟨rfl, rfl, rfl, by decide +kernel, rfl, by decide +kernel, by decide +kernel⟩
theorem ok__law_cell_at (X : K.In h) (G : h.Ns mainGlobals mg) (c : He.SaysD fa fn K) : ∃ fd, FnOk P w K mg base CX0 1 (He.fAd K ("_law_cell_at", none)) fd ["_law_script", "_law_k"] (sp__law_cell_at K) ∧ Binds K fd ["_law_script", "_law_k"] [] ∧ PySem.W.keepIn K (.ref (He.fAd K ("_law_cell_at", none))) = true := by
  obtain ⟨fd, F⟩ := c.def_ 25 (d := d__law_cell_at) rfl
  have FD : FunD K "_law_cell_at" "_law_cell_at" (defArgs st__law_cell_at) (defBody st__law_cell_at) (defScope st__law_cell_at) [] [] (He.fAd K ("_law_cell_at", none)) fd := F
  refine ⟨fd, FD.ok (N := ["_law_script", "_law_k"]) (k := 0) sc__law_cell_at (fun vs H Q E h => by obtain ⟨_, _, _, hh⟩ := h.use; obtain ⟨_, _, _, _, e, _⟩ := hh; rw [e]; rfl) (fun cdv A outer s H vs Q E hr h => ⟨t__law_cell_at K, PSs.nox ?_, pure__law_cell_at  h⟩), FD.bindsN fun _ _ _ _ _ _ us hl => match us, hl with | [_, _], _ => rfl, FD.kp⟩
  exact pss_cons (ps_if (pt_cmpR op_lt (pv 1) (pe_callB call_len (by rfl) ((He.free_ok X G (c.fact 29 (f := .free "len") rfl))) (by decide +kernel) (pa_cons (pv 0) (pa_nil))) (nomark _)) (pss_one (ps_ret (pe_ix ix_list (pv 0) (pv 1) (fun _ _ => rfl)))) (pss_nil)) (pss_one (ps_ret (pe_int)))

theorem sc__law_mix : FnScope ["_law_cell", "_law_k", "_law_m"] ["_law_cell", "_law_k"] (defScope st__law_mix) := ⟨rfl, rfl, rfl, by decide +kernel, rfl, by decide +kernel, by decide +kernel⟩
theorem ok__law_mix (X : K.In h) (G : h.Ns mainGlobals mg) (c : He.SaysD fa fn K) : ∃ fd, FnOk P w K mg base CX0 1 (He.fAd K ("_law_mix", none)) fd ["_law_cell", "_law_k"] (sp__law_mix K) ∧ Binds K fd ["_law_cell", "_law_k"] [] ∧ PySem.W.keepIn K (.ref (He.fAd K ("_law_mix", none))) = true := by
  obtain ⟨fd, F⟩ := c.def_ 26 (d := d__law_mix) rfl
  have FD : FunD K "_law_mix" "_law_mix" (defArgs st__law_mix) (defBody st__law_mix) (defScope st__law_mix) [] [] (He.fAd K ("_law_mix", none)) fd := F
  refine ⟨fd, FD.ok (N := ["_law_cell", "_law_k", "_law_m"]) (k := 0) sc__law_mix (fun vs H Q E h => by obtain ⟨_, _, _, hh⟩ := h.use; obtain ⟨_, _, e, _⟩ := hh; rw [e]; rfl) (fun cdv A outer s H vs Q E hr h => ⟨t__law_mix K, PSs.nox ?_, pure__law_mix  h⟩), FD.bindsN fun _ _ _ _ _ _ us hl => match us, hl with | [_, _], _ => rfl, FD.kp⟩
  exact pss_cons (ps_set (i := 2) sc__law_mix.nd rfl (Or.inl rfl) (pe_op op_mod (pe_op op_mul (pe_op op_add (pe_op op_add (pe_op op_mod (pv 0) (pe_int)) (pe_op op_mul (pe_int) (pv 1))) (pe_int)) (pe_int)) (pe_int))) (pss_one (ps_ret (pe_op op_mod (pe_op op_mul (pv 2) (pv 2)) (pe_int))))

theorem sc__law_newest : FnScope ["_law_chip", "_law_size", "_law_rows", "_law_page_here", "_law_stuff", "_law_newest_here", "_law_roll", "_law_stamp", "_law_name_here", "_law_value"] ["_law_chip", "_law_size"] (defScope st__law_newest) := ⟨rfl, rfl, rfl, by decide +kernel, rfl, by decide +kernel, by decide +kernel⟩
theorem ok__law_newest (X : K.In h) (G : h.Ns mainGlobals mg) (c : He.SaysD fa fn K) : ∃ fd, FnOk P w K mg base CX0 5 (He.fAd K ("_law_newest", none)) fd ["_law_chip", "_law_size"] (sp__law_newest K) ∧ Binds K fd ["_law_chip", "_law_size"] [] ∧ PySem.W.keepIn K (.ref (He.fAd K ("_law_newest", none))) = true := by
  obtain ⟨fd_Chip_read, G_Chip_read, B_Chip_read, KP_Chip_read⟩ := ok_Chip_read (P := P) (w := w) (base := base) X G c
  obtain ⟨fd, F⟩ := c.def_ 27 (d := d__law_newest) rfl
  have FD : FunD K "_law_newest" "_law_newest" (defArgs st__law_newest) (defBody st__law_newest) (defScope st__law_newest) [] [] (He.fAd K ("_law_newest", none)) fd := F
  refine ⟨fd, FD.ok (N := ["_law_chip", "_law_size", "_law_rows", "_law_page_here", "_law_stuff", "_law_newest_here", "_law_roll", "_law_stamp", "_law_name_here", "_law_value"]) (k := 4) sc__law_newest (fun vs H Q E h => by obtain ⟨_, _, _, hh⟩ := h.use; obtain ⟨_, _, _, _, e, _⟩ := hh; rw [e]; rfl) (fun cdv A outer s H vs Q E hr h => ⟨t__law_newest K, PSs.nox ?_, pure__law_newest  h⟩), FD.bindsN fun _ _ _ _ _ _ us hl => match us, hl with | [_, _], _ => rfl, FD.kp⟩
  exact pss_cons (ps_set (i := 2) sc__law_newest.nd rfl (Or.inl rfl) (pe_lst (pa_nil))) (pss_cons (ps_for PassesOwn.never rfl (pi_range1 rfl ((He.free_ok X G (c.fact 31 (f := .free "range") rfl))) (pa_cons (pv 1) (pa_nil))) (pg_name (i := 3) sc__law_newest.nd rfl (Or.inl rfl)) (pss_cons (ps_set (i := 4) sc__law_newest.nd rfl (Or.inl rfl) (pe_meth (pv 0) (He.cls_ok (c.fact 37 (f := .cls "Chip") rfl)) (He.meth_ok (c.fact 65 (f := .meth "Chip" "read") rfl)) G_Chip_read (hr.mono (by decide)) B_Chip_read .nil pass0 (pa_cons (pv 3) (pa_nil)))) (pss_one (ps_if (pt_cmpR op_notN (pv 4) (pe_non) (nomark _)) (pss_one (ps_expr (pe_bm PySem.F.plainAttrs_list PySem.F.slot_list_append PySem.F.type_list_append mt_append (pv 2) (pa_cons (pe_tup (pa_cons (pe_op op_shr (pe_ix ix_tup (pv 4) (pe_int) (fun _ _ => rfl)) (pe_int)) (pa_cons (pe_op op_and (pe_ix ix_tup (pv 4) (pe_int) (fun _ _ => rfl)) (pe_int)) (pa_cons (pv 3) (pa_cons (pe_ix ix_tup (pv 4) (pe_int) (fun _ _ => rfl)) (pa_nil)))))) (pa_nil))))) (pss_nil))))) (pss_cons (ps_set (i := 5) sc__law_newest.nd rfl (Or.inl rfl) (pe_dnewK)) (pss_cons (ps_set (i := 6) sc__law_newest.nd rfl (Or.inl rfl) (pe_tup (pa_cons (pe_int) (pa_cons (pe_int) (pa_nil))))) (pss_cons (ps_for PassesOwn.never rfl (pi_list (pe_callB (cr_sortT (d := 4) (B := sortB) (by decide)) (by rfl) ((He.free_ok X G (c.fact 30 (f := .free "sorted") rfl))) (by decide +kernel) (pa_cons (pv 2) (pa_nil)))) (pg_tup rfl (pgs_cons (pg_name (i := 7) sc__law_newest.nd rfl (Or.inl rfl)) (pgs_cons (pg_name (i := 8) sc__law_newest.nd rfl (Or.inl rfl)) (pgs_cons (pg_name (i := 3) sc__law_newest.nd rfl (Or.inl rfl)) (pgs_cons (pg_name (i := 9) sc__law_newest.nd rfl (Or.inl rfl)) (pgs_nil)))))) (pss_one (ps_if (pt_cmpR op_eq (pv 8) (pe_int) (nomark _)) (pss_one (ps_set (i := 6) sc__law_newest.nd rfl (Or.inl rfl) (pe_tup (pa_cons (pv 7) (pa_cons (pv 9) (pa_nil)))))) (pss_one (ps_dput (roomU hr) (pv 5) (pv 8) (pe_tup (pa_cons (pv 7) (pa_cons (pv 3) (pa_cons (pv 9) (pa_nil))))) rfl))))) (pss_one (ps_ret (pe_tup (pa_cons (pv 5) (pa_cons (pv 6) (pa_nil))))))))))

theorem sc__law_found : FnScope ["_law_chip", "_law_size", "_law_newest_here", "_law_roll", "_law_found_here", "_law_name_here", "_law_stamp", "_law_page_here", "_law_value"] ["_law_chip", "_law_size"] (defScope st__law_found) := ⟨rfl, rfl, rfl, by decide +kernel, rfl, by decide +kernel, by decide +kernel⟩
theorem ok__law_found (X : K.In h) (G : h.Ns mainGlobals mg) (c : He.SaysD fa fn K) : ∃ fd, FnOk P w K mg base CX0 6 (He.fAd K ("_law_found", none)) fd ["_law_chip", "_law_size"] (sp__law_found K) ∧ Binds K fd ["_law_chip", "_law_size"] [] ∧ PySem.W.keepIn K (.ref (He.fAd K ("_law_found", none))) = true := by
  obtain ⟨fd__law_newest, G__law_newest, B__law_newest, KP__law_newest⟩ := ok__law_newest (P := P) (w := w) (base := base) X G c
  obtain ⟨fd, F⟩ := c.def_ 28 (d := d__law_found) rfl
  have FD : FunD K "_law_found" "_law_found" (defArgs st__law_found) (defBody st__law_found) (defScope st__law_found) [] [] (He.fAd K ("_law_found", none)) fd := F
  refine ⟨fd, FD.ok (N := ["_law_chip", "_law_size", "_law_newest_here", "_law_roll", "_law_found_here", "_law_name_here", "_law_stamp", "_law_page_here", "_law_value"]) (k := 5) sc__law_found (fun vs H Q E h => by obtain ⟨_, _, _, hh⟩ := h.use; obtain ⟨_, _, _, _, e, _⟩ := hh; rw [e]; rfl) (fun cdv A outer s H vs Q E hr h => ⟨t__law_found K, PSs.nox ?_, pure__law_found  h⟩), FD.bindsN fun _ _ _ _ _ _ us hl => match us, hl with | [_, _], _ => rfl, FD.kp⟩
  exact pss_cons (ps_asg (pe_call G__law_newest (hr.mono (by decide)) rfl ((He.glo_ok X G (c.fact 11 (f := .glo "_law_newest") rfl))) KP__law_newest B__law_newest .nil pass0 (pa_cons (pv 0) (pa_cons (pv 1) (pa_nil)))) (pg_tup rfl (pgs_cons (pg_name (i := 2) sc__law_found.nd rfl (Or.inl rfl)) (pgs_cons (pg_name (i := 3) sc__law_found.nd rfl (Or.inl rfl)) (pgs_nil))))) (pss_cons (ps_set (i := 4) sc__law_found.nd rfl (Or.inl rfl) (pe_dnewK)) (pss_cons (ps_for PassesOwn.never rfl (pi_list (pe_callB (call_sortedDI rfl) (by rfl) ((He.free_ok X G (c.fact 30 (f := .free "sorted") rfl))) (by decide +kernel) (pa_cons (pv 2) (pa_nil)))) (pg_name (i := 5) sc__law_found.nd rfl (Or.inl rfl)) (pss_cons (ps_asg (pe_dget (roomU hr) (pv 2) (pv 5) (fun _ _ => rfl)) (pg_tup rfl (pgs_cons (pg_name (i := 6) sc__law_found.nd rfl (Or.inl rfl)) (pgs_cons (pg_name (i := 7) sc__law_found.nd rfl (Or.inl rfl)) (pgs_cons (pg_name (i := 8) sc__law_found.nd rfl (Or.inl rfl)) (pgs_nil)))))) (pss_one (ps_if (PW.pt (pw_or (pt_cmpR op_gt (pv 6) (pe_ix ix_tup (pv 3) (pe_int) (fun _ _ => rfl)) (nomark _)) (pw_or1 (pt_cmpR op_eq (pe_op op_and (pe_op op_shr (pe_ix ix_tup (pv 3) (pe_int) (fun _ _ => rfl)) (pv 5)) (pe_int)) (pe_int) (nomark _))))) (pss_one (ps_dput (roomU hr) (pv 4) (pv 5) (pe_tup (pa_cons (pv 7) (pa_cons (pv 8) (pa_nil)))) rfl)) (pss_nil))))) (pss_one (ps_ret (pv 4)))))

theorem sc__law_name : FnScope ["_law_k", "_law_way", "_law_name_here"] ["_law_k", "_law_way"] (defScope st__law_name) := ⟨rfl, rfl, rfl, by decide +kernel, rfl, by decide +kernel, by decide +kernel⟩
theorem ok__law_name (X : K.In h) (G : h.Ns mainGlobals mg) (c : He.SaysD fa fn K) : ∃ fd, FnOk P w K mg base CX0 1 (He.fAd K ("_law_name", none)) fd ["_law_k", "_law_way"] (sp__law_name K) ∧ Binds K fd ["_law_k", "_law_way"] [] ∧ PySem.W.keepIn K (.ref (He.fAd K ("_law_name", none))) = true := by
  obtain ⟨fd, F⟩ := c.def_ 29 (d := d__law_name) rfl
  have FD : FunD K "_law_name" "_law_name" (defArgs st__law_name) (defBody st__law_name) (defScope st__law_name) [] [] (He.fAd K ("_law_name", none)) fd := F
  refine ⟨fd, FD.ok (N := ["_law_k", "_law_way", "_law_name_here"]) (k := 0) sc__law_name (fun vs H Q E h => by obtain ⟨_, _, _, hh⟩ := h.use; obtain ⟨_, _, e, _⟩ := hh; rw [e]; rfl) (fun cdv A outer s H vs Q E hr h => ⟨t__law_name K, PSs.nox ?_, pure__law_name  h⟩), FD.bindsN fun _ _ _ _ _ _ us hl => match us, hl with | [_, _], _ => rfl, FD.kp⟩
  exact pss_cons (ps_set (i := 2) sc__law_name.nd rfl (Or.inl rfl) (pe_op op_mul (pv 0) (pe_op op_add (pe_int) (pe_op op_mod (pv 1) (pe_int))))) (pss_cons (ps_if (pt_cmpR op_eq (pe_op op_mod (pe_op op_fdiv (pv 1) (pe_int)) (pe_int)) (pe_int) (nomark _)) (pss_one (ps_ret (pe_op op_sub (pe_int) (pv 2)))) (pss_nil)) (pss_one (ps_ret (pv 2))))

theorem sc__law_bits : FnScope ["_law_cell", "_law_way", "_law_bits_here", "_law_k"] ["_law_cell", "_law_way"] (defScope st__law_bits) := ⟨rfl, rfl, rfl, by decide +kernel, rfl, by decide +kernel, by decide +kernel⟩
theorem ok__law_bits (X : K.In h) (G : h.Ns mainGlobals mg) (c : He.SaysD fa fn K) : ∃ fd, FnOk P w K mg base CX0 2 (He.fAd K ("_law_bits", none)) fd ["_law_cell", "_law_way"] (sp__law_bits K) ∧ Binds K fd ["_law_cell", "_law_way"] [] ∧ PySem.W.keepIn K (.ref (He.fAd K ("_law_bits", none))) = true := by
  obtain ⟨fd__law_mix, G__law_mix, B__law_mix, KP__law_mix⟩ := ok__law_mix (P := P) (w := w) (base := base) X G c
  obtain ⟨fd__law_name, G__law_name, B__law_name, KP__law_name⟩ := ok__law_name (P := P) (w := w) (base := base) X G c
  obtain ⟨fd, F⟩ := c.def_ 30 (d := d__law_bits) rfl
  have FD : FunD K "_law_bits" "_law_bits" (defArgs st__law_bits) (defBody st__law_bits) (defScope st__law_bits) [] [] (He.fAd K ("_law_bits", none)) fd := F
  refine ⟨fd, FD.ok (N := ["_law_cell", "_law_way", "_law_bits_here", "_law_k"]) (k := 1) sc__law_bits (fun vs H Q E h => by obtain ⟨_, _, _, hh⟩ := h.use; obtain ⟨_, _, e, _⟩ := hh; rw [e]; rfl) (fun cdv A outer s H vs Q E hr h => ⟨t__law_bits K, PSs.nox ?_, pure__law_bits  h⟩), FD.bindsN fun _ _ _ _ _ _ us hl => match us, hl with | [_, _], _ => rfl, FD.kp⟩
  exact pss_cons (ps_set (i := 2) sc__law_bits.nd rfl (Or.inl rfl) (pe_int)) (pss_cons (ps_for PassesOwn.never rfl (pi_range1 rfl ((He.free_ok X G (c.fact 31 (f := .free "range") rfl))) (pa_cons (pe_int) (pa_nil))) (pg_name (i := 3) sc__law_bits.nd rfl (Or.inl rfl)) (pss_one (ps_if (pt_cmpR op_ne (pe_op op_mod (pe_call G__law_mix (hr.mono (by decide)) rfl ((He.glo_ok X G (c.fact 12 (f := .glo "_law_mix") rfl))) KP__law_mix B__law_mix .nil pass0 (pa_cons (pv 0) (pa_cons (pv 3) (pa_nil)))) (pe_int)) (pe_int) (nomark _)) (pss_one (ps_set (i := 2) sc__law_bits.nd rfl (Or.inl rfl) (pe_op op_or (pv 2) (pe_op op_shl (pe_int) (pe_call G__law_name (hr.mono (by decide)) rfl ((He.glo_ok X G (c.fact 13 (f := .glo "_law_name") rfl))) KP__law_name B__law_name .nil pass0 (pa_cons (pv 3) (pa_cons (pv 1) (pa_nil)))))))) (pss_nil)))) (pss_one (ps_ret (pv 2))))

theorem sc__law_lay : FnScope ["_law_chip", "_law_script", "_law_blocks", "_law_pages", "_law_way", "_law_filled", "_law_k", "_law_block", "_law_name_here", "_law_value"] ["_law_chip", "_law_script", "_law_blocks", "_law_pages", "_law_way"] (defScope st__law_lay) := ⟨rfl, rfl, rfl, by decide +kernel, rfl, by decide +kernel, by decide +kernel⟩
theorem ok__law_lay (X : K.In h) (G : h.Ns mainGlobals mg) (c : He.SaysD fa fn K) : ∃ fd, FnOk P w K mg base CX0 5 (He.fAd K ("_law_lay", none)) fd ["_law_chip", "_law_script", "_law_blocks", "_law_pages", "_law_way"] (sp__law_lay K) ∧ Binds K fd ["_law_chip", "_law_script", "_law_blocks", "_law_pages", "_law_way"] [] ∧ PySem.W.keepIn K (.ref (He.fAd K ("_law_lay", none))) = true := by
  obtain ⟨fd__law_name, G__law_name, B__law_name, KP__law_name⟩ := ok__law_name (P := P) (w := w) (base := base) X G c
  obtain ⟨fd__law_mix, G__law_mix, B__law_mix, KP__law_mix⟩ := ok__law_mix (P := P) (w := w) (base := base) X G c
  obtain ⟨fd__law_bits, G__law_bits, B__law_bits, KP__law_bits⟩ := ok__law_bits (P := P) (w := w) (base := base) X G c
  obtain ⟨fd_Chip_put, G_Chip_put, B_Chip_put, KP_Chip_put⟩ := ok_Chip_put (P := P) (w := w) (base := base) X G c
  obtain ⟨fd_mark_of, G_mark_of, B_mark_of, KP_mark_of⟩ := ok_mark_of (P := P) (w := w) (base := base) X G c
  obtain ⟨fd, F⟩ := c.def_ 31 (d := d__law_lay) rfl
  have FD : FunD K "_law_lay" "_law_lay" (defArgs st__law_lay) (defBody st__law_lay) (defScope st__law_lay) [] [] (He.fAd K ("_law_lay", none)) fd := F
  refine ⟨fd, FD.ok (N := ["_law_chip", "_law_script", "_law_blocks", "_law_pages", "_law_way", "_law_filled", "_law_k", "_law_block", "_law_name_here", "_law_value"]) (k := 4) sc__law_lay (fun vs H Q E h => by obtain ⟨_, _, _, hh⟩ := h.use; obtain ⟨_, _, _, _, _, _, _, _, _, e, _⟩ := hh; rw [e]; rfl) (fun cdv A outer s H vs Q E hr h => ⟨t__law_lay K, PSs.nox ?_, pure__law_lay  h⟩), FD.bindsN fun _ _ _ _ _ _ us hl => match us, hl with | [_, _, _, _, _], _ => rfl, FD.kp⟩
  exact pss_cons (ps_set (i := 5) sc__law_lay.nd rfl (Or.inl rfl) (pe_op op_rep (pe_lst (pa_cons (pe_int) (pa_nil))) (pv 2))) (pss_one (ps_for PassesOwn.never rfl (pi_range2 rfl ((He.free_ok X G (c.fact 31 (f := .free "range") rfl))) (pa_cons (pe_int) (pa_cons (pe_callB (call_min2 rfl) (by rfl) ((He.free_ok X G (c.fact 32 (f := .free "min") rfl))) (by decide +kernel) (pa_cons (pe_callB call_len (by rfl) ((He.free_ok X G (c.fact 29 (f := .free "len") rfl))) (by decide +kernel) (pa_cons (pv 1) (pa_nil))) (pa_cons (pe_int) (pa_nil)))) (pa_nil)))) (pg_name (i := 6) sc__law_lay.nd rfl (Or.inl rfl)) (pss_cons (ps_set (i := 7) sc__law_lay.nd rfl (Or.inl rfl) (pe_op op_mod (pe_ix ix_list (pv 1) (pv 6) (fun _ _ => rfl)) (pv 2))) (pss_one (ps_if (pt_cmpR op_lt (pe_ix ix_list (pv 5) (pv 7) (fun _ _ => rfl)) (pv 3) (nomark _)) (pss_cons (ps_set (i := 8) sc__law_lay.nd rfl (Or.inl rfl) (pe_call G__law_name (hr.mono (by decide)) rfl ((He.glo_ok X G (c.fact 13 (f := .glo "_law_name") rfl))) KP__law_name B__law_name .nil pass0 (pa_cons (pe_op op_mod (pe_op op_fdiv (pe_ix ix_list (pv 1) (pv 6) (fun _ _ => rfl)) (pe_int)) (pe_int)) (pa_cons (pv 4) (pa_nil))))) (pss_cons (ps_set (i := 9) sc__law_lay.nd rfl (Or.inl rfl) (pv 6)) (pss_cons (ps_if (pt_cmpR op_eq (pe_op op_mod (pe_call G__law_mix (hr.mono (by decide)) rfl ((He.glo_ok X G (c.fact 12 (f := .glo "_law_mix") rfl))) KP__law_mix B__law_mix .nil pass0 (pa_cons (pe_ix ix_list (pv 1) (pv 6) (fun _ _ => rfl)) (pa_cons (pe_int) (pa_nil)))) (pe_int)) (pe_int) (nomark _)) (pss_cons (ps_set (i := 8) sc__law_lay.nd rfl (Or.inl rfl) (pe_gc rfl ((He.int_ok X G (c.fact 36 (f := .int "ROLL" (64)) rfl))))) (pss_one (ps_set (i := 9) sc__law_lay.nd rfl (Or.inl rfl) (pe_call G__law_bits (hr.mono (by decide)) rfl ((He.glo_ok X G (c.fact 14 (f := .glo "_law_bits") rfl))) KP__law_bits B__law_bits .nil pass0 (pa_cons (pe_ix ix_list (pv 1) (pv 6) (fun _ _ => rfl)) (pa_cons (pv 4) (pa_nil))))))) (pss_nil)) (pss_cons (ps_expr (pe_meth (pv 0) (He.cls_ok (c.fact 37 (f := .cls "Chip") rfl)) (He.meth_ok (c.fact 69 (f := .meth "Chip" "put") rfl)) G_Chip_put (hr.mono (by decide)) B_Chip_put .nil pass0 (pa_cons (pe_op op_add (pe_op op_mul (pv 7) (pv 3)) (pe_ix ix_list (pv 5) (pv 7) (fun _ _ => rfl))) (pa_cons (pe_tup (pa_cons (pe_call G_mark_of (hr.mono (by decide)) rfl ((He.glo_ok X G (c.fact 15 (f := .glo "mark_of") rfl))) KP_mark_of B_mark_of .nil pass0 (pa_cons (pe_op op_mul (pe_int) (pv 6)) (pa_cons (pv 8) (pa_nil)))) (pa_cons (pv 9) (pa_nil)))) (pa_nil))))) (pss_one (ps_asg (pe_op op_add (pe_ix ix_list (pv 5) (pv 7) (fun _ _ => rfl)) (pe_int)) (pg_sub (pv 5) (pv 7) set_list))))))) (pss_nil))))))

theorem sc__law_page : FnScope ["_law_cell", "_law_size", "_law_some"] ["_law_cell", "_law_size"] (defScope st__law_page) := ⟨rfl, rfl, rfl, by decide +kernel, rfl, by decide +kernel, by decide +kernel⟩
theorem ok__law_page (X : K.In h) (G : h.Ns mainGlobals mg) (c : He.SaysD fa fn K) : ∃ fd, FnOk P w K mg base CX0 1 (He.fAd K ("_law_page", none)) fd ["_law_cell", "_law_size"] (sp__law_page K) ∧ Binds K fd ["_law_cell", "_law_size"] [] ∧ PySem.W.keepIn K (.ref (He.fAd K ("_law_page", none))) = true := by
  obtain ⟨fd, F⟩ := c.def_ 32 (d := d__law_page) rfl
  have FD : FunD K "_law_page" "_law_page" (defArgs st__law_page) (defBody st__law_page) (defScope st__law_page) [] [] (He.fAd K ("_law_page", none)) fd := F
  refine ⟨fd, FD.ok (N := ["_law_cell", "_law_size", "_law_some"]) (k := 0) sc__law_page (fun vs H Q E h => by obtain ⟨_, _, _, hh⟩ := h.use; obtain ⟨_, _, e, _⟩ := hh; rw [e]; rfl) (fun cdv A outer s H vs Q E hr h => ⟨t__law_page K, PSs.nox ?_, pure__law_page  h⟩), FD.bindsN fun _ _ _ _ _ _ us hl => match us, hl with | [_, _], _ => rfl, FD.kp⟩
  exact pss_cons (ps_set (i := 2) sc__law_page.nd rfl (Or.inl rfl) (pe_lst (pa_cons (pe_un un_neg (pe_int)) (pa_cons (pv 1) (pa_cons (pe_op op_sub (pe_un un_neg (pe_int)) (pe_op op_mod (pv 0) (pe_op op_pow (pe_int) (pe_int)))) (pa_cons (pe_op op_add (pv 1) (pe_op op_mod (pv 0) (pe_op op_pow (pe_int) (pe_int)))) (pa_nil))))))) (pss_cons (ps_if (pt_cmpR op_eq (pe_op op_mod (pv 0) (pe_int)) (pe_int) (nomark _)) (pss_one (ps_ret (pe_ix ix_list (pv 2) (pe_op op_mod (pe_op op_fdiv (pv 0) (pe_int)) (pe_int)) (fun _ _ => rfl)))) (pss_nil)) (pss_one (ps_ret (pe_op op_mod (pe_op op_fdiv (pv 0) (pe_int)) (pv 1)))))

theorem sc__law_spoiled : FnScope ["_law_told", "_law_cell", "_law_size", "_law_way", "_law_at", "_law_page_here", "_law_sheet"] ["_law_told", "_law_cell", "_law_size", "_law_way"] (defScope st__law_spoiled) := ⟨rfl, rfl, rfl, by decide +kernel, rfl, by decide +kernel, by decide +kernel⟩
theorem ok__law_spoiled (X : K.In h) (G : h.Ns mainGlobals mg) (c : He.SaysD fa fn K) : ∃ fd, FnOk P w K mg base CX0 2 (He.fAd K ("_law_spoiled", none)) fd ["_law_told", "_law_cell", "_law_size", "_law_way"] (sp__law_spoiled K) ∧ Binds K fd ["_law_told", "_law_cell", "_law_size", "_law_way"] [] ∧ PySem.W.keepIn K (.ref (He.fAd K ("_law_spoiled", none))) = true := by
  obtain ⟨fd__law_page, G__law_page, B__law_page, KP__law_page⟩ := ok__law_page (P := P) (w := w) (base := base) X G c
  obtain ⟨fd__law_name, G__law_name, B__law_name, KP__law_name⟩ := ok__law_name (P := P) (w := w) (base := base) X G c
  obtain ⟨fd__law_mix, G__law_mix, B__law_mix, KP__law_mix⟩ := ok__law_mix (P := P) (w := w) (base := base) X G c
  obtain ⟨fd, F⟩ := c.def_ 33 (d := d__law_spoiled) rfl
  have FD : FunD K "_law_spoiled" "_law_spoiled" (defArgs st__law_spoiled) (defBody st__law_spoiled) (defScope st__law_spoiled) [] [] (He.fAd K ("_law_spoiled", none)) fd := F
  refine ⟨fd, FD.ok (N := ["_law_told", "_law_cell", "_law_size", "_law_way", "_law_at", "_law_page_here", "_law_sheet"]) (k := 1) sc__law_spoiled (fun vs H Q E h => by obtain ⟨_, _, _, hh⟩ := h.use; obtain ⟨_, _, _, _, _, _, e, _⟩ := hh; rw [e]; rfl) (fun cdv A outer s H vs Q E hr h => ⟨t__law_spoiled K, PSs.nox ?_, pure__law_spoiled  h⟩), FD.bindsN fun _ _ _ _ _ _ us hl => match us, hl with | [_, _, _, _], _ => rfl, FD.kp⟩
  exact pss_cons (ps_set (i := 4) sc__law_spoiled.nd rfl (Or.inl rfl) (pe_op op_mod (pe_op op_fdiv (pv 1) (pe_int)) (pe_op op_add (pe_callB call_len (by rfl) ((He.free_ok X G (c.fact 29 (f := .free "len") rfl))) (by decide +kernel) (pa_cons (pv 0) (pa_nil))) (pe_int)))) (pss_cons (ps_set (i := 5) sc__law_spoiled.nd rfl (Or.inl rfl) (pe_call G__law_page (hr.mono (by decide)) rfl ((He.glo_ok X G (c.fact 16 (f := .glo "_law_page") rfl))) KP__law_page B__law_page .nil pass0 (pa_cons (pe_op op_fdiv (pv 1) (pe_int)) (pa_cons (pv 2) (pa_nil))))) (pss_cons (ps_set (i := 6) sc__law_spoiled.nd rfl (Or.inl rfl) (pe_call G__law_name (hr.mono (by decide)) rfl ((He.glo_ok X G (c.fact 13 (f := .glo "_law_name") rfl))) KP__law_name B__law_name .nil pass0 (pa_cons (pe_op op_mod (pe_call G__law_mix (hr.mono (by decide)) rfl ((He.glo_ok X G (c.fact 12 (f := .glo "_law_mix") rfl))) KP__law_mix B__law_mix .nil pass0 (pa_cons (pv 1) (pa_cons (pe_int) (pa_nil)))) (pe_int)) (pa_cons (pv 3) (pa_nil))))) (pss_cons (ps_if (PW.pt (pw_or (pt_cmpR op_eq (pe_op op_mod (pv 1) (pe_int)) (pe_int) (nomark _)) (pw_or1 (pt_cmpR op_eq (pv 4) (pe_callB call_len (by rfl) ((He.free_ok X G (c.fact 29 (f := .free "len") rfl))) (by decide +kernel) (pa_cons (pv 0) (pa_nil))) (nomark _))))) (pss_one (ps_ret (pe_op op_cat (pe_op op_cat (pe_slice sl_list (pv 0) (po_none) (po_some (pv 4))) (pe_lst (pa_cons (pe_tup (pa_cons (pv 6) (pa_cons (pv 5) (pa_nil)))) (pa_nil)))) (pe_slice sl_list (pv 0) (po_some (pv 4)) (po_none))))) (pss_nil)) (pss_cons (ps_if (pt_cmpR op_eq (pe_op op_mod (pv 1) (pe_int)) (pe_int) (nomark _)) (pss_one (ps_ret (pe_op op_cat (pe_op op_cat (pe_slice sl_list (pv 0) (po_none) (po_some (pv 4))) (pe_lst (pa_cons (pe_tup (pa_cons (pe_ix ix_tup (pe_ix ix_list (pv 0) (pv 4) (fun _ _ => rfl)) (pe_int) (fun _ _ => rfl)) (pa_cons (pv 5) (pa_nil)))) (pa_nil)))) (pe_slice sl_list (pv 0) (po_some (pe_op op_add (pv 4) (pe_int))) (po_none))))) (pss_nil)) (pss_cons (ps_if (pt_cmpR op_eq (pe_op op_mod (pv 1) (pe_int)) (pe_int) (nomark _)) (pss_one (ps_ret (pe_op op_cat (pe_op op_cat (pe_slice sl_list (pv 0) (po_none) (po_some (pv 4))) (pe_lst (pa_cons (pe_tup (pa_cons (pv 6) (pa_cons (pe_ix ix_tup (pe_ix ix_list (pv 0) (pv 4) (fun _ _ => rfl)) (pe_int) (fun _ _ => rfl)) (pa_nil)))) (pa_nil)))) (pe_slice sl_list (pv 0) (po_some (pe_op op_add (pv 4) (pe_int))) (po_none))))) (pss_nil)) (pss_cons (ps_if (pt_cmpR op_eq (pe_op op_mod (pv 1) (pe_int)) (pe_int) (nomark _)) (pss_one (ps_ret (pe_op op_cat (pe_slice sl_list (pv 0) (po_none) (po_some (pv 4))) (pe_slice sl_list (pv 0) (po_some (pe_op op_add (pv 4) (pe_int))) (po_none))))) (pss_nil)) (pss_one (ps_ret (pe_op op_cat (pe_op op_cat (pe_slice sl_list (pv 0) (po_none) (po_some (pv 4))) (pe_lst (pa_cons (pe_ix ix_list (pv 0) (pv 4) (fun _ _ => rfl)) (pa_nil)))) (pe_slice sl_list (pv 0) (po_some (pv 4)) (po_none)))))))))))

theorem sc__law_sort : FnScope ["_law_chip", "_law_size", "_law_found_here", "_law_sheet", "_law_page_here"] ["_law_chip", "_law_size", "_law_found_here", "_law_sheet", "_law_page_here"] (defScope st__law_sort) := ⟨rfl, rfl, rfl, by decide +kernel, rfl, by decide +kernel, by decide +kernel⟩
theorem ok__law_sort (X : K.In h) (G : h.Ns mainGlobals mg) (c : He.SaysD fa fn K) : ∃ fd, FnOk P w K mg base CX0 5 (He.fAd K ("_law_sort", none)) fd ["_law_chip", "_law_size", "_law_found_here", "_law_sheet", "_law_page_here"] (sp__law_sort K) ∧ Binds K fd ["_law_chip", "_law_size", "_law_found_here", "_law_sheet", "_law_page_here"] [] ∧ PySem.W.keepIn K (.ref (He.fAd K ("_law_sort", none))) = true := by
  obtain ⟨fd_Chip_read, G_Chip_read, B_Chip_read, KP_Chip_read⟩ := ok_Chip_read (P := P) (w := w) (base := base) X G c
  obtain ⟨fd, F⟩ := c.def_ 34 (d := d__law_sort) rfl
  have FD : FunD K "_law_sort" "_law_sort" (defArgs st__law_sort) (defBody st__law_sort) (defScope st__law_sort) [] [] (He.fAd K ("_law_sort", none)) fd := F
  refine ⟨fd, FD.ok (N := ["_law_chip", "_law_size", "_law_found_here", "_law_sheet", "_law_page_here"]) (k := 4) sc__law_sort (fun vs H Q E h => by obtain ⟨_, _, _, hh⟩ := h.use; obtain ⟨_, _, _, _, _, _, _, _, e, _⟩ := hh; rw [e]; rfl) (fun cdv A outer s H vs Q E hr h => ⟨t__law_sort K, PSs.nox ?_, pure__law_sort  h⟩), FD.bindsN fun _ _ _ _ _ _ us hl => match us, hl with | [_, _, _, _, _], _ => rfl, FD.kp⟩
  exact pss_cons (ps_if (PW.pt (pw_or (pt_not (pt_chain op_le op_lt (pe_int) (pv 4) (pv 1))) (pw_or1 (pt_cmpR op_isN (pe_meth (pv 0) (He.cls_ok (c.fact 37 (f := .cls "Chip") rfl)) (He.meth_ok (c.fact 65 (f := .meth "Chip" "read") rfl)) G_Chip_read (hr.mono (by decide)) B_Chip_read .nil pass0 (pa_cons (pv 4) (pa_nil))) (pe_non) (nomark _))))) (pss_one (ps_ret (pe_str))) (pss_nil)) (pss_cons (ps_if (pt_cmpR op_ne (pe_op op_and (pe_ix ix_tup (pe_meth (pv 0) (He.cls_ok (c.fact 37 (f := .cls "Chip") rfl)) (He.meth_ok (c.fact 65 (f := .meth "Chip" "read") rfl)) G_Chip_read (hr.mono (by decide)) B_Chip_read .nil pass0 (pa_cons (pv 4) (pa_nil))) (pe_int) (fun _ _ => rfl)) (pe_int)) (pv 3) (nomark _)) (pss_one (ps_ret (pe_str))) (pss_nil)) (pss_cons (ps_if (pt_cmp (pc_dnotin (roomU hr) (pv 3) (pv 2))) (pss_one (ps_ret (pe_str))) (pss_nil)) (pss_cons (ps_if (pt_cmpR op_ne (pe_ix ix_tup (pe_dget (roomU hr) (pv 2) (pv 3) (fun _ _ => rfl)) (pe_int) (fun _ _ => rfl)) (pv 4) (nomark _)) (pss_one (ps_ret (pe_str))) (pss_nil)) (pss_one (ps_ret (pe_str))))))

theorem sc__law_due : FnScope ["_law_chip", "_law_size", "_law_found_here", "_law_told", "_law_rows", "_law_known", "_law_sheet", "_law_page_here", "_law_sort_here"] ["_law_chip", "_law_size", "_law_found_here", "_law_told"] (defScope st__law_due) := ⟨rfl, rfl, rfl, by decide +kernel, rfl, by decide +kernel, by decide +kernel⟩
theorem ok__law_due (X : K.In h) (G : h.Ns mainGlobals mg) (c : He.SaysD fa fn K) : ∃ fd, FnOk P w K mg base CX0 6 (He.fAd K ("_law_due", none)) fd ["_law_chip", "_law_size", "_law_found_here", "_law_told"] (sp__law_due K) ∧ Binds K fd ["_law_chip", "_law_size", "_law_found_here", "_law_told"] [] ∧ PySem.W.keepIn K (.ref (He.fAd K ("_law_due", none))) = true := by
  obtain ⟨fd__law_sort, G__law_sort, B__law_sort, KP__law_sort⟩ := ok__law_sort (P := P) (w := w) (base := base) X G c
  obtain ⟨fd, F⟩ := c.def_ 35 (d := d__law_due) rfl
  have FD : FunD K "_law_due" "_law_due" (defArgs st__law_due) (defBody st__law_due) (defScope st__law_due) [] [] (He.fAd K ("_law_due", none)) fd := F
  refine ⟨fd, FD.ok (N := ["_law_chip", "_law_size", "_law_found_here", "_law_told", "_law_rows", "_law_known", "_law_sheet", "_law_page_here", "_law_sort_here"]) (k := 5) sc__law_due (fun vs H Q E h => by obtain ⟨_, _, _, hh⟩ := h.use; obtain ⟨_, _, _, _, _, _, _, _, _, e, _⟩ := hh; rw [e]; rfl) (fun cdv A outer s H vs Q E hr h => ⟨t__law_due K, PSs.nox ?_, pure__law_due  h⟩), FD.bindsN fun _ _ _ _ _ _ us hl => match us, hl with | [_, _, _, _], _ => rfl, FD.kp⟩
  exact pss_cons (ps_set (i := 4) sc__law_due.nd rfl (Or.inl rfl) (pe_lst (pa_nil))) (pss_cons (ps_set (i := 5) sc__law_due.nd rfl (Or.inl rfl) (pe_dnewK)) (pss_cons (ps_for PassesOwn.never rfl (pi_list (pv 3)) (pg_tup rfl (pgs_cons (pg_name (i := 6) sc__law_due.nd rfl (Or.inl rfl)) (pgs_cons (pg_name (i := 7) sc__law_due.nd rfl (Or.inl rfl)) (pgs_nil)))) (pss_cons (ps_set (i := 8) sc__law_due.nd rfl (Or.inl rfl) (pe_call G__law_sort (hr.mono (by decide)) rfl ((He.glo_ok X G (c.fact 17 (f := .glo "_law_sort") rfl))) KP__law_sort B__law_sort .nil pass0 (pa_cons (pv 0) (pa_cons (pv 1) (pa_cons (pv 2) (pa_cons (pv 6) (pa_cons (pv 7) (pa_nil)))))))) (pss_cons (ps_if (pt_cmp (pc_din (roomU hr) (pv 6) (pv 5))) (pss_one (ps_set (i := 8) sc__law_due.nd rfl (Or.inl rfl) (pe_str))) (pss_nil)) (pss_cons (ps_if (pt_cmpR op_ne (pv 8) (pe_str) (nomark _)) (pss_one (ps_expr (pe_bm PySem.F.plainAttrs_list PySem.F.slot_list_append PySem.F.type_list_append mt_append (pv 4) (pa_cons (pe_tup (pa_cons (pv 6) (pa_cons (pv 7) (pa_cons (pv 8) (pa_nil))))) (pa_nil))))) (pss_nil)) (pss_one (ps_dput (roomU hr) (pv 5) (pv 6) (pv 7) rfl)))))) (pss_cons (ps_for PassesOwn.never rfl (pi_list (pe_callB (call_sortedDI rfl) (by rfl) ((He.free_ok X G (c.fact 30 (f := .free "sorted") rfl))) (by decide +kernel) (pa_cons (pv 2) (pa_nil)))) (pg_name (i := 6) sc__law_due.nd rfl (Or.inl rfl)) (pss_one (ps_if (pt_cmp (pc_dnotin (roomU hr) (pv 6) (pv 5))) (pss_one (ps_expr (pe_bm PySem.F.plainAttrs_list PySem.F.slot_list_append PySem.F.type_list_append mt_append (pv 4) (pa_cons (pe_tup (pa_cons (pv 6) (pa_cons (pe_ix ix_tup (pe_dget (roomU hr) (pv 2) (pv 6) (fun _ _ => rfl)) (pe_int) (fun _ _ => rfl)) (pa_cons (pe_str) (pa_nil))))) (pa_nil))))) (pss_nil)))) (pss_one (ps_ret (pv 4))))))

theorem sc_law : FnScope ["_law_script", "_law_blocks", "_law_pages", "_law_way", "_law_chip", "_law_found_here", "_law_told", "_law_turn", "_law_k", "_law_handed", "_law_answer", "_law_sheet"] ["_law_script"] (defScope st_law) := ⟨rfl, rfl, rfl, by decide +kernel, rfl, by decide +kernel, by decide +kernel⟩
theorem ok_law (X : K.In h) (G : h.Ns mainGlobals mg) (c : He.SaysD fa fn K) : ∃ fd, (∀ (s : Shared) (v : Value), BindsTo s fd ⟨[v], []⟩ [("_law_script", v)]) ∧ ∀ base : Heap, FnOk P w K mg base CX0 8 (He.fAd K ("law", none)) fd ["_law_script"] (sp_law K) := by
  obtain ⟨fd, F⟩ := c.def_ 36 (d := d_law) rfl
  have FD : FunD K "law" "law" (defArgs st_law) (defBody st_law) (defScope st_law) [] [] (He.fAd K ("law", none)) fd := F
  refine ⟨fd, fun s v => (FunD.bindsA (ps := ["_law_script"]) FD fun _ _ _ _ _ _ us hl => match us, hl with | [_], _ => rfl) s [v] rfl, fun base => ?_⟩
  obtain ⟨fd__law_cell_at, G__law_cell_at, B__law_cell_at, KP__law_cell_at⟩ := ok__law_cell_at (P := P) (w := w) (base := base) X G c
  obtain ⟨fd_Chip___init__, G_Chip___init__, ⟨_, VD_Chip___init__, B_Chip___init__⟩, KP_Chip___init__⟩ := ok_Chip___init__ (P := P) (w := w) (base := base) X G c
  obtain ⟨fd__law_lay, G__law_lay, B__law_lay, KP__law_lay⟩ := ok__law_lay (P := P) (w := w) (base := base) X G c
  obtain ⟨fd__law_found, G__law_found, B__law_found, KP__law_found⟩ := ok__law_found (P := P) (w := w) (base := base) X G c
  obtain ⟨fd_faults, G_faults, B_faults, KP_faults⟩ := ok_faults (P := P) (w := w) (base := base) X G c
  obtain ⟨fd__law_spoiled, G__law_spoiled, B__law_spoiled, KP__law_spoiled⟩ := ok__law_spoiled (P := P) (w := w) (base := base) X G c
  obtain ⟨fd__law_due, G__law_due, B__law_due, KP__law_due⟩ := ok__law_due (P := P) (w := w) (base := base) X G c
  refine FD.ok (N := ["_law_script", "_law_blocks", "_law_pages", "_law_way", "_law_chip", "_law_found_here", "_law_told", "_law_turn", "_law_k", "_law_handed", "_law_answer", "_law_sheet"]) (k := 7) sc_law (fun vs H Q E h => by obtain ⟨_, _, _, hh⟩ := h.use; obtain ⟨_, _, _, e, _⟩ := hh; rw [e]; rfl) (fun cdv A outer s H vs Q E hr h => ⟨t_law K, PSs.nox ?_, pure_law  h⟩)
  exact pss_cons (ps_set (i := 1) sc_law.nd rfl (Or.inl rfl) (pe_op op_add (pe_int) (pe_op op_mod (pe_call G__law_cell_at (hr.mono (by decide)) rfl ((He.glo_ok X G (c.fact 18 (f := .glo "_law_cell_at") rfl))) KP__law_cell_at B__law_cell_at .nil pass0 (pa_cons (pv 0) (pa_cons (pe_int) (pa_nil)))) (pe_int)))) (pss_cons (ps_set (i := 2) sc_law.nd rfl (Or.inl rfl) (pe_op op_add (pe_int) (pe_op op_mod (pe_call G__law_cell_at (hr.mono (by decide)) rfl ((He.glo_ok X G (c.fact 18 (f := .glo "_law_cell_at") rfl))) KP__law_cell_at B__law_cell_at .nil pass0 (pa_cons (pv 0) (pa_cons (pe_int) (pa_nil)))) (pe_int)))) (pss_cons (ps_set (i := 3) sc_law.nd rfl (Or.inl rfl) (pe_call G__law_cell_at (hr.mono (by decide)) rfl ((He.glo_ok X G (c.fact 18 (f := .glo "_law_cell_at") rfl))) KP__law_cell_at B__law_cell_at .nil pass0 (pa_cons (pv 0) (pa_cons (pe_int) (pa_nil))))) (pss_cons (ps_set (i := 4) sc_law.nd rfl (Or.inl rfl) (pe_make (He.mkr_ok (c.fact 58 (f := .mkr "Chip") rfl)) G_Chip___init__ (hr.mono (by decide)) rfl ((He.glo_ok X G (c.fact 19 (f := .glo "Chip") rfl))) B_Chip___init__ VD_Chip___init__ pass0 (pa_cons (pv 1) (pa_cons (pv 2) (pa_nil))))) (pss_cons (ps_expr (pe_call G__law_lay (hr.mono (by decide)) rfl ((He.glo_ok X G (c.fact 20 (f := .glo "_law_lay") rfl))) KP__law_lay B__law_lay .nil pass0 (pa_cons (pv 4) (pa_cons (pv 0) (pa_cons (pv 1) (pa_cons (pv 2) (pa_cons (pv 3) (pa_nil)))))))) (pss_cons (ps_set (i := 5) sc_law.nd rfl (Or.inr rfl) (pe_call G__law_found (hr.mono (by decide)) rfl ((He.glo_ok X G (c.fact 21 (f := .glo "_law_found") rfl))) KP__law_found B__law_found .nil pass0 (pa_cons (pv 4) (pa_cons (pe_op op_mul (pv 1) (pv 2)) (pa_nil))))) (pss_cons (ps_setLc (i := 6) (own := ([("_law_sheet", 11)] : List (Str × Nat))) (g := gName 11) (tt := tYes) rfl sc_law.nd rfl rfl (sw_true rfl rfl rfl (by decide +kernel)) (pi_list (pe_callB (call_sortedDI rfl) (by rfl) ((He.free_ok X G (c.fact 30 (f := .free "sorted") rfl))) (by decide +kernel) (pa_cons (pv 5) (pa_nil)))) (blkOk_by (N := ["_law_script", "_law_blocks", "_law_pages", "_law_way", "_law_chip", "_law_found_here", "_law_told", "_law_turn", "_law_k", "_law_handed", "_law_answer", "_law_sheet"]) (sc := defScope st_law) (by decide +kernel)) (fun _ _ _ _ _ => pg_name (i := 11) sc_law.nd rfl (Or.inl rfl)) (fun _ _ _ _ _ => pts_nil) (fun _ _ _ _ _ => pe_tup (pa_cons (pv 11) (pa_cons (pe_ix ix_tup (pe_dget (roomU hr) (pv 5) (pv 11) (fun _ _ => rfl)) (pe_int) (fun _ _ => rfl)) (pa_nil))))) (pss_cons (ps_set (i := 7) sc_law.nd rfl (Or.inl rfl) (pe_op op_mod (pe_call G__law_cell_at (hr.mono (by decide)) rfl ((He.glo_ok X G (c.fact 18 (f := .glo "_law_cell_at") rfl))) KP__law_cell_at B__law_cell_at .nil pass0 (pa_cons (pv 0) (pa_cons (pe_int) (pa_nil)))) (pe_op op_add (pe_callB call_len (by rfl) ((He.free_ok X G (c.fact 29 (f := .free "len") rfl))) (by decide +kernel) (pa_cons (pv 6) (pa_nil))) (pe_int)))) (pss_cons (ps_set (i := 6) sc_law.nd rfl (Or.inl rfl) (pe_op op_cat (pe_slice sl_list (pv 6) (po_some (pv 7)) (po_none)) (pe_slice sl_list (pv 6) (po_none) (po_some (pv 7))))) (pss_cons (ps_if (pt_cmpR (op_neD hr.units) (pe_call G_faults (hr.mono (by decide)) rfl ((He.glo_ok X G (c.fact 22 (f := .glo "faults") rfl))) KP_faults B_faults .nil pass0 (pa_cons (pv 4) (pa_cons (pe_callTy call_list_of (by rfl) ((He.free_ok X G (c.fact 33 (f := .free "list") rfl))) (by decide +kernel) (pa_cons (pv 6) (pa_nil))) (pa_nil)))) (pe_lst (pa_nil)) (nomark _)) (pss_one (ps_ret (pe_bl))) (pss_nil)) (pss_cons (ps_for PassesOwn.never rfl (pi_range2 rfl ((He.free_ok X G (c.fact 31 (f := .free "range") rfl))) (pa_cons (pe_int) (pa_cons (pe_callB (call_min2 rfl) (by rfl) ((He.free_ok X G (c.fact 32 (f := .free "min") rfl))) (by decide +kernel) (pa_cons (pe_callB call_len (by rfl) ((He.free_ok X G (c.fact 29 (f := .free "len") rfl))) (by decide +kernel) (pa_cons (pv 0) (pa_nil))) (pa_cons (pe_int) (pa_nil)))) (pa_nil)))) (pg_name (i := 8) sc_law.nd rfl (Or.inl rfl)) (pss_cons (ps_set (i := 6) sc_law.nd rfl (Or.inl rfl) (pe_call G__law_spoiled (hr.mono (by decide)) rfl ((He.glo_ok X G (c.fact 23 (f := .glo "_law_spoiled") rfl))) KP__law_spoiled B__law_spoiled .nil pass0 (pa_cons (pv 6) (pa_cons (pe_op op_fdiv (pe_ix ix_list (pv 0) (pv 8) (fun _ _ => rfl)) (pe_int)) (pa_cons (pe_op op_mul (pv 1) (pv 2)) (pa_cons (pv 3) (pa_nil))))))) (pss_cons (ps_set (i := 9) sc_law.nd rfl (Or.inl rfl) (pe_callTy call_list_of (by rfl) ((He.free_ok X G (c.fact 33 (f := .free "list") rfl))) (by decide +kernel) (pa_cons (pv 6) (pa_nil)))) (pss_cons (ps_set (i := 10) sc_law.nd rfl (Or.inl rfl) (pe_call G_faults (hr.mono (by decide)) rfl ((He.glo_ok X G (c.fact 22 (f := .glo "faults") rfl))) KP_faults B_faults .nil pass0 (pa_cons (pv 4) (pa_cons (pv 9) (pa_nil))))) (pss_one (ps_if (PW.pt (pw_or (pt_not (pt_val (pe_callB call_isi (by rfl) ((He.free_ok X G (c.fact 26 (f := .free "isinstance") rfl))) (by decide +kernel) (pa_cons (pv 10) (pa_cons (pe_bltn (by rfl) ((He.free_ok X G (c.fact 33 (f := .free "list") rfl))) (by decide +kernel) rfl) (pa_nil)))))) (pw_or (pt_cmpR (op_neD hr.units) (pv 10) (pe_call G__law_due (hr.mono (by decide)) rfl ((He.glo_ok X G (c.fact 24 (f := .glo "_law_due") rfl))) KP__law_due B__law_due .nil pass0 (pa_cons (pv 4) (pa_cons (pe_op op_mul (pv 1) (pv 2)) (pa_cons (pv 5) (pa_cons (pv 6) (pa_nil)))))) (nomark _)) (pw_or1 (pt_cmpR (op_neD hr.units) (pv 9) (pv 6) (nomark _)))))) (pss_one (ps_ret (pe_bl))) (pss_nil))))))) (pss_one (ps_ret (pe_cmpR (op_eqD hr.units) (pe_call G_faults (hr.mono (by decide)) rfl ((He.glo_ok X G (c.fact 22 (f := .glo "faults") rfl))) KP_faults B_faults .nil pass0 (pa_cons (pv 4) (pa_cons (pe_callTy call_list_of (by rfl) ((He.free_ok X G (c.fact 33 (f := .free "list") rfl))) (by decide +kernel) (pa_cons (pv 6) (pa_nil))) (pa_nil)))) (pe_call G__law_due (hr.mono (by decide)) rfl ((He.glo_ok X G (c.fact 24 (f := .glo "_law_due") rfl))) KP__law_due B__law_due .nil pass0 (pa_cons (pv 4) (pa_cons (pe_op op_mul (pv 1) (pv 2)) (pa_cons (pv 5) (pa_cons (pv 6) (pa_nil)))))) (nomark _))))))))))))))

end
end HT
open PySem PySem.W PySem.Calls PyProof.Rows
theorem PySem.Challenge.cw_wornpages_k66_planted_faults_holds : PySem.Challenge.rw_wornpages_k66_planted_faults.Holds := by
  w_on; o_law
  refine HandSHeadRun.head_any (r := OpenLaw.row PySem.Challenge.rw_wornpages_k66_planted_faults) (q := view (OpenLaw.row PySem.Challenge.rw_wornpages_k66_planted_faults).prog [43]) (H := HT.hk) (ob := HT.ob) (M := 20000) (loose := HT.names) (d := HandSHeadRun.topDef (OpenLaw.row PySem.Challenge.rw_wornpages_k66_planted_faults).prog 43) (kwd := []) HT.ob_eq
    (by kernel_rfl) (fun s => by kernel_rfl) HT.run (by kernel_rfl) (by kernel_rfl) (by kernel_rfl) (by rfl) (by first | assumption | decide +kernel) (by decide +kernel) ⟨rfl, rfl, rfl, rfl, rfl, by decide +kernel⟩ ?hw ?hc
  case hw => w_witness2
  case hc =>
    refine L2.walk_ofE (l := PySem.Challenge.rw_wornpages_k66_planted_faults) (n := 63) (k := 8) (x := "_law_script") (CX := L2.CX0) rfl (by decide) (by kernel_rfl) ⟨rfl, by decide, by decide⟩ ?F (fun _ _ _ _ z => z)
    intro w mg fa h Y G hmg0
    obtain ⟨K, KX, c⟩ := Y
    have hmg : mg ("law" : PySem.Str) = some (.ref fa) := by
      have e : (HandSHeadRun.topDef (OpenLaw.row PySem.Challenge.rw_wornpages_k66_planted_faults).prog 43).name = ("law" : PySem.Str) := by kernel_rfl
      rw [← e]
      exact hmg0
    have e := hmg.symm.trans (He.glo_ok KX G (c.fact 25 (f := .glo "law") rfl))
    cases e
    obtain ⟨fd, hb, F2⟩ := HT.ok_law (P := (PySem.Challenge.rw_wornpages_k66_planted_faults).prog) (w := w) KX G c
    exact ⟨K, fd, Wn.sp_law K, KX, hb, fun H a ns hl _ hS => ⟨_, [(a, Wn.seqO K (ns.map L2.V.int))], [], Wn.Rel.ofSq hS, .cons .here .nil, a, _, ns, rfl, rfl, Wn.RdL.seq, by rw [Wn.law_true ns (by omega)]; intro _ _; rfl⟩, fun base _ _ => F2 base⟩
