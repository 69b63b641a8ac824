import PyProof.Rows.All
import Wide.All
import OpenK.AllK
import Wide.FinOn
import HandS.ForMost
import HandS.ForExc
import HandS.Gcd
import HandS.IsInst
import HandS.WideBits
import HandS.Defaults
import HandS.Records
import KE.KOpsOwn
import PyProof.InstNe
import PyProof.FactsInt
import HandS.ExcIs
import HandS.TryMany
import HandS.ClsMeth
import HandS.Zip
import PyProof.EqKinds
import HandS.ForSpec
import PySem.Challenge.RW_heightsfitted_k20_intervals_hold_numbers
set_option Elab.async false
set_option linter.all false
set_option maxRecDepth 100000
/-! Fw1: a logic over data, on top of the hand layer: values as plain data, readings as semantic preconditions. -/
namespace DL
open PySem PySem.Spec PyProof.Rows L2

/-! ### semantic preconditions -/
section
variable (X : Cx)
def we (e : Expr) : TE := fun σ H Q => ∀ pins s, Inv X pins σ H s → wpAny (model X.prog X.w) X.A (eval e X.env) (EP X pins σ Q) X.xe s
def wt (e : Expr) : TT := fun σ H Q => ∀ pins s, Inv X pins σ H s → wpAny (model X.prog X.w) X.A (isTrue e X.env (eval e X.env)) (TP X pins σ Q) X.xe s
def ww (e : Expr) : TT := fun σ H Q => ∀ whole pins s, Inv X pins σ H s → wpAny (model X.prog X.w) X.A (isTrue e X.env whole) (TP X pins σ Q) X.xe s
def wa (es : List Expr) : TA := fun σ H Q => ∀ pos pins s, Inv X pins σ H s → wpAny (model X.prog X.w) X.A (spliced (backTo pos (starEach es X.env))) (AP X pins σ Q) X.xe s
def ws1 (st : Stmt) : TS := fun D σ H => ∀ pins s, Inv X pins σ H s → wpAny (model X.prog X.w) X.A (exec st X.env) (SP X pins D) X.xe s
def ws (st : List Stmt) : TS := fun D σ H => ∀ pins s, Inv X pins σ H s → wpAny (model X.prog X.w) X.A (execs st X.env) (SP X pins D) X.xe s
def wop (f : Value → Value → Sem Value) : R2 := fun x y H Q => ∀ pins σ s v u, Inv X pins σ H s → RelV x v → RelV y u → wpAny (model X.prog X.w) X.A (f v u) (EP X pins σ Q) X.xe s
def wun (f : Value → Sem Value) : V → Hp → VK → Prop := fun x H Q => ∀ pins σ s v, Inv X pins σ H s → RelV x v → wpAny (model X.prog X.w) X.A (f v) (EP X pins σ Q) X.xe s
def wcall (f : Value) : List V → Hp → VK → Prop := fun xs H Q => ∀ pins σ s us, Inv X pins σ H s → Vals xs us → wpAny (model X.prog X.w) X.A (call f us) (EP X pins σ Q) X.xe s
def wmt (id : String) : V → List V → Hp → VK → Prop := fun x xs H Q => ∀ pins σ s v us, Inv X pins σ H s → RelV x v → Vals xs us → wpAny (model X.prog X.w) X.A (call (.builtin id) (v :: us)) (EP X pins σ Q) X.xe s
def wtr : V → Hp → (Bool → Hp → Prop) → Prop := fun x H Q => ∀ pins σ s v, Inv X pins σ H s → RelV x v → wpAny (model X.prog X.w) X.A (truthy v) (TP X pins σ Q) X.xe s
end
section
variable {X : Cx}
theorem pe_we {e : Expr} : PE X e (we X e) := ⟨fun pins s σ H Q I h => h pins s I⟩
theorem pt_wt {e : Expr} : PT X e (wt X e) := ⟨fun pins s σ H Q I h => h pins s I⟩
theorem pw_ww {e : Expr} : PW X e (ww X e) := ⟨fun whole pins s σ H Q I h => h whole pins s I⟩
theorem pa_wa {es : List Expr} : PA X es (wa X es) := ⟨fun pos pins s σ H Q I h => h pos pins s I⟩
theorem ps_ws1 {st : Stmt} : PS X st (ws1 X st) := ⟨fun pins s σ H D I h => h pins s I⟩
theorem pss_ws {st : List Stmt} : PSs X st (ws X st) := ⟨fun pins s σ H D I h => h pins s I⟩
theorem opr_wop {f : Value → Value → Sem Value} : OpR X f (wop X f) := fun pins s σ H x y v u Q I rx ry h => h pins σ s v u I rx ry
theorem unr_wun {f : Value → Sem Value} : UnR X f (wun X f) := fun pins s σ H x v Q I rx h => h pins σ s v I rx
theorem callr_w {f : Value} : CallR X f (wcall X f) := fun pins s σ H xs us Q I r h => h pins σ s us I r
theorem mt_w {id : String} : MtR X id (wmt X id) := fun pins s σ H x xs v us Q I rx r h => h pins σ s v us I rx r
theorem tru_w : TruR X (wtr X) := fun pins s σ H x v Q I rx h => h pins σ s v I rx
theorem _root_.L2.PE.to {e : Expr} {t : TE} {σ : L2.St} {H : Hp} {Q : VK} (p : PE X e t) (h : t σ H Q) : we X e σ H Q := fun pins s I => p.run pins s σ H Q I h
theorem _root_.L2.PT.to {e : Expr} {t : TT} {σ : L2.St} {H : Hp} {Q : Bool → Hp → Prop} (p : PT X e t) (h : t σ H Q) : wt X e σ H Q := fun pins s I => p.run pins s σ H Q I h
theorem _root_.L2.PW.to {e : Expr} {t : TT} {σ : L2.St} {H : Hp} {Q : Bool → Hp → Prop} (p : PW X e t) (h : t σ H Q) : ww X e σ H Q := fun whole pins s I => p.run whole pins s σ H Q I h
theorem _root_.L2.PA.to {es : List Expr} {t : TA} {σ : L2.St} {H : Hp} {Q : List V → Hp → Prop} (p : PA X es t) (h : t σ H Q) : wa X es σ H Q := fun pos pins s I => p.run pos pins s σ H Q I h
theorem _root_.L2.PS.to {st : Stmt} {t : TS} {σ : L2.St} {H : Hp} {De : Ends} (p : PS X st t) (h : t De σ H) : ws1 X st De σ H := fun pins s I => p.run pins s σ H De I h
theorem _root_.L2.PSs.to {st : List Stmt} {t : TS} {σ : L2.St} {H : Hp} {De : Ends} (p : PSs X st t) (h : t De σ H) : ws X st De σ H := fun pins s I => p.run pins s σ H De I h
theorem _root_.L2.OpR.to {f : Value → Value → Sem Value} {r : R2} {x y : V} {H : Hp} {Q : VK} (p : OpR X f r) (h : r x y H Q) : wop X f x y H Q := fun pins σ s v u I rx ry => p pins s σ H x y v u Q I rx ry h
theorem _root_.L2.UnR.to {f : Value → Sem Value} {r : V → Hp → VK → Prop} {x : V} {H : Hp} {Q : VK} (p : UnR X f r) (h : r x H Q) : wun X f x H Q := fun pins σ s v I rx => p pins s σ H x v Q I rx h
theorem _root_.L2.CallR.to {f : Value} {r : List V → Hp → VK → Prop} {xs : List V} {H : Hp} {Q : VK} (p : CallR X f r) (h : r xs H Q) : wcall X f xs H Q := fun pins σ s us I rx => p pins s σ H xs us Q I rx h
theorem _root_.L2.MtR.to {id : String} {r : V → List V → Hp → VK → Prop} {x : V} {xs : List V} {H : Hp} {Q : VK} (p : MtR X id r) (h : r x xs H Q) : wmt X id x xs H Q := fun pins σ s v us I rx rr => p pins s σ H x xs v us Q I rx rr h
theorem _root_.L2.TruR.to {r : V → Hp → (Bool → Hp → Prop) → Prop} {x : V} {H : Hp} {Q : Bool → Hp → Prop} (p : TruR X r) (h : r x H Q) : wtr X x H Q := fun pins σ s v I rx => p pins s σ H x v Q I rx h
theorem wt_mono {e : Expr} {σ : L2.St} {H : Hp} {Q Q' : Bool → Hp → Prop} (k : ∀ b H1, Q b H1 → Q' b H1) (h : wt X e σ H Q) : wt X e σ H Q' := fun pins s I => thn (h pins s I) fun b s1 ⟨H1, I1, q⟩ => ⟨H1, I1, k b H1 q⟩
end

/-! ### data -/
inductive D where
  | non | bl (b : Bool) | int (i : Int) | str (s : Str) | ty (n : String) | ref (a : Addr)
  | tup (ds : List D) | lst (ds : List D) | rol (ds : List D) | ins (C : Addr) (ns : List Str) (ds : List D)
/-- what a name may hold: data, or one of the def's own cells -/
inductive R where
  | d (x : D) | c (k : Nat)
/-- a cell that may change: a list, an instance; known only by a property -/
inductive Cell where
  | gone | lst (rs : List R) | ins (C : Addr) (ns : List Str) (rs : List R) | any (P : List D → Prop)

section
variable (K : PySem.W.Frag) (G : Hp)
mutual
def Rep : D → V → Prop
  | .non, v => v = .non
  | .bl b, v => v = .bl b
  | .int i, v => v = .int i
  | .str s, v => v = .str s
  | .ty n, v => v = .ty n
  | .ref a, v => v = .ref a
  | .tup ds, v => ∃ p xs, v = .ref p ∧ SqT K G p xs ∧ Reps ds xs
  | .lst ds, v => ∃ p xs, v = .ref p ∧ G p = some (.lst xs) ∧ Reps ds xs
  | .rol ds, v => ∃ p xs, v = .ref p ∧ SqL K G p xs ∧ Reps ds xs
  | .ins C ns ds, v => ∃ p dx xs, v = .ref p ∧ G p = some (.ins C dx (ns.zip xs)) ∧ ns.length = ds.length ∧ Reps ds xs
def Reps : List D → List V → Prop
  | [], xs => xs = []
  | d :: ds, xs => ∃ x r, xs = x :: r ∧ Rep d x ∧ Reps ds r
end
end
theorem Same.seqT {K : PySem.W.Frag} {H H' : Hp} {a : Addr} {xs : List V} (e : Same H H') (h : SqT K H a xs) : SqT K H' a xs := by
  rcases h with (h | ⟨o, h⟩) | h
  · exact .inl (.inl (e _ _ h))
  · exact .inl (.inr ⟨o, e _ _ h⟩)
  · exact .inr h
section
variable {K : PySem.W.Frag} {G G' : Hp}
mutual
theorem Rep.mono (e : Same G G') : ∀ {d : D} {v : V}, Rep K G d v → Rep K G' d v
  | .non, _, h => by simpa only [Rep] using h
  | .bl b, _, h => by simpa only [Rep] using h
  | .int i, _, h => by simpa only [Rep] using h
  | .str s, _, h => by simpa only [Rep] using h
  | .ty n, _, h => by simpa only [Rep] using h
  | .ref a, _, h => by simpa only [Rep] using h
  | .tup ds, _, h => by
    simp only [Rep] at h ⊢
    obtain ⟨p, xs, h1, h2, h3⟩ := h
    exact ⟨p, xs, h1, Same.seqT e h2, Reps.mono e h3⟩
  | .lst ds, _, h => by
    simp only [Rep] at h ⊢
    obtain ⟨p, xs, h1, h2, h3⟩ := h
    exact ⟨p, xs, h1, e _ _ h2, Reps.mono e h3⟩
  | .rol ds, _, h => by
    simp only [Rep] at h ⊢
    obtain ⟨p, xs, h1, h2, h3⟩ := h
    exact ⟨p, xs, h1, e.seq h2, Reps.mono e h3⟩
  | .ins C ns ds, _, h => by
    simp only [Rep] at h ⊢
    obtain ⟨p, dx, xs, h1, h2, h3, h4⟩ := h
    exact ⟨p, dx, xs, h1, e _ _ h2, h3, Reps.mono e h4⟩
theorem Reps.mono (e : Same G G') : ∀ {ds : List D} {xs : List V}, Reps K G ds xs → Reps K G' ds xs
  | [], _, h => by simpa only [Reps] using h
  | d :: ds, _, h => by
    simp only [Reps] at h ⊢
    obtain ⟨x, r, h1, h2, h3⟩ := h
    exact ⟨x, r, h1, Rep.mono e h2, Reps.mono e h3⟩
end
theorem Reps.length : ∀ {ds : List D} {xs : List V}, Reps K G ds xs → ds.length = xs.length
  | [], _, h => by simp only [Reps] at h; subst h; rfl
  | d :: ds, _, h => by
    simp only [Reps] at h
    obtain ⟨x, r, rfl, _, h3⟩ := h
    rw [List.length_cons, List.length_cons, Reps.length h3]
theorem Reps.get : ∀ {ds : List D} {xs : List V} {i : Nat} {d : D}, Reps K G ds xs → ds[i]? = some d → ∃ x, xs[i]? = some x ∧ Rep K G d x
  | [], _, i, d, _, e => by simp at e
  | a :: ds, _, 0, d, h, e => by
    simp only [Reps] at h
    obtain ⟨x, r, rfl, h2, _⟩ := h
    simp at e
    subst e
    exact ⟨x, rfl, h2⟩
  | a :: ds, _, i + 1, d, h, e => by
    simp only [Reps] at h
    obtain ⟨x, r, rfl, _, h3⟩ := h
    obtain ⟨y, e1, e2⟩ := Reps.get (i := i) h3 (by simpa using e)
    exact ⟨y, by simpa using e1, e2⟩
theorem Reps.nil : Reps K G [] [] := by simp only [Reps]
theorem Reps.cons {d : D} {ds : List D} {x : V} {xs : List V} (h : Rep K G d x) (t : Reps K G ds xs) : Reps K G (d :: ds) (x :: xs) := by
  simp only [Reps]
  exact ⟨x, xs, rfl, h, t⟩
theorem Reps.append : ∀ {ds es : List D} {xs ys : List V}, Reps K G ds xs → Reps K G es ys → Reps K G (ds ++ es) (xs ++ ys)
  | [], _, _, _, h, t => by simp only [Reps] at h; subst h; exact t
  | d :: ds, _, _, _, h, t => by
    simp only [Reps] at h
    obtain ⟨x, r, rfl, h2, h3⟩ := h
    exact Reps.cons h2 (Reps.append h3 t)
theorem Reps.take : ∀ {ds : List D} {xs : List V} (n : Nat), Reps K G ds xs → Reps K G (ds.take n) (xs.take n)
  | [], _, n, h => by simp only [Reps] at h; subst h; simp only [List.take_nil]; exact Reps.nil
  | d :: ds, _, 0, h => by simp only [List.take_zero]; exact Reps.nil
  | d :: ds, _, n + 1, h => by
    simp only [Reps] at h
    obtain ⟨x, r, rfl, h2, h3⟩ := h
    exact Reps.cons h2 (Reps.take n h3)
theorem Reps.drop : ∀ {ds : List D} {xs : List V} (n : Nat), Reps K G ds xs → Reps K G (ds.drop n) (xs.drop n)
  | [], _, n, h => by simp only [Reps] at h; subst h; simp only [List.drop_nil]; exact Reps.nil
  | d :: ds, _, 0, h => h
  | d :: ds, _, n + 1, h => by
    simp only [Reps] at h
    obtain ⟨x, r, rfl, h2, h3⟩ := h
    exact Reps.drop n h3
theorem Reps.ints : ∀ {ns : List Int} {xs : List V}, Reps K G (ns.map D.int) xs → xs = ns.map V.int
  | [], _, h => by simpa only [List.map_nil, Reps] using h
  | n :: ns, _, h => by
    simp only [List.map_cons, Reps, Rep] at h
    obtain ⟨x, r, rfl, rfl, h3⟩ := h
    rw [Reps.ints h3]; rfl
theorem Reps.ofInts : ∀ {ns : List Int}, Reps K G (ns.map D.int) (ns.map V.int)
  | [] => Reps.nil
  | n :: ns => Reps.cons (by simp only [Rep]) Reps.ofInts
end

/-! ### hidden addresses -/
def msk (S : List Addr) (H : Hp) : Hp := fun b => if b ∈ S then none else H b
section
variable {S T : List Addr} {H H' : Hp} {a l : Addr} {o : HO}
theorem msk_in (h : a ∈ S) : msk S H a = none := by unfold msk; rw [if_pos h]
theorem msk_out (h : a ∉ S) : msk S H a = H a := by unfold msk; rw [if_neg h]
theorem msk_same (S : List Addr) (H : Hp) : Same (msk S H) H := fun b o e => by
  unfold msk at e
  split at e
  · cases e
  · exact e
theorem msk_le (h : ∀ b ∈ T, b ∈ S) : Same (msk S H) (msk T H) := fun b o e => by
  unfold msk at e ⊢
  split at e
  · cases e
  · rename_i hb
    rw [if_neg fun z => hb (h b z)]
    exact e
theorem msk_mono (h : Same H H') : Same (msk S H) (msk S H') := fun b o e => by
  unfold msk at e ⊢
  split at e
  · cases e
  · rename_i hb
    rw [if_neg hb]
    exact h b o e
theorem msk_but (h : ∀ b o, b ∉ S → H b = some o → H' b = some o) : Same (msk S H) (msk S H') := fun b o e => by
  unfold msk at e ⊢
  split at e
  · cases e
  · rename_i hb
    rw [if_neg hb]
    exact h b o hb e
theorem msk_congr (h : ∀ b, b ∈ S ↔ b ∈ T) : msk S H = msk T H := by
  funext b
  unfold msk
  simp only [h b]
theorem msk_upd_in (h : l ∈ S) : msk S (upd H l o) = msk S H := by
  funext b
  unfold msk
  split
  · rfl
  · rename_i hb
    rw [upd_ne (fun z => hb (by rw [z]; exact h))]
end

/-! ### the state: cells, what stands as it was -/
structure Fm where
  H0 : Hp
  S0 : List Addr
  mu : List Addr
  la : List Addr := []
  ga : Hp := fun _ => none
abbrev Fm.of (H0 : Hp) (S0 mu : List Addr) : Fm := { H0 := H0, S0 := S0, mu := mu }
def live : List Addr → List Cell → List Addr
  | _ :: ls, .gone :: own => live ls own
  | l :: ls, _ :: own => l :: live ls own
  | _, _ => []
theorem live_mem : ∀ {ls : List Addr} {own : List Cell} {l : Addr}, l ∈ live ls own → l ∈ ls
  | [], _, _, h => by simp [live] at h
  | a :: ls, [], _, h => by simp [live] at h
  | a :: ls, c :: own, l, h => by
    cases c <;> simp only [live, List.mem_cons] at h ⊢
    · exact .inr (live_mem h)
    all_goals
      rcases h with h | h
      · exact .inl h
      · exact .inr (live_mem h)
theorem live_get : ∀ {ls : List Addr} {own : List Cell} {k : Nat} {l : Addr} {c : Cell}, ls[k]? = some l → own[k]? = some c → c ≠ .gone → l ∈ live ls own
  | [], _, k, l, c, h, _, _ => by simp at h
  | a :: ls, [], k, l, c, _, h, _ => by simp at h
  | a :: ls, e :: own, 0, l, c, h, h', hc => by
    simp at h h'
    subst h h'
    cases e <;> simp only [live, List.mem_cons, true_or] <;> exact absurd rfl hc
  | a :: ls, e :: own, k + 1, l, c, h, h', hc => by
    have := live_get (ls := ls) (own := own) (k := k) (by simpa using h) (by simpa using h') hc
    cases e <;> simp only [live, List.mem_cons]
    · exact this
    all_goals exact .inr this
theorem live_of : ∀ {ls : List Addr} {own : List Cell} {l : Addr}, l ∈ live ls own → ∃ (k : Nat) (c : Cell), ls[k]? = some l ∧ own[k]? = some c ∧ c ≠ .gone
  | [], _, _, h => by simp [live] at h
  | a :: ls, [], _, h => by simp [live] at h
  | a :: ls, e :: own, l, h => by
    have rec_ : l ∈ live ls own → ∃ (k : Nat) (c : Cell), (a :: ls)[k]? = some l ∧ (e :: own)[k]? = some c ∧ c ≠ .gone := fun h => by
      obtain ⟨k, c, h1, h2, h3⟩ := live_of h
      exact ⟨k + 1, c, by simpa using h1, by simpa using h2, h3⟩
    cases e <;> simp only [live, List.mem_cons] at h
    · exact rec_ h
    all_goals
      rcases h with h | h
      · exact ⟨0, _, by simp [h], rfl, fun z => by cases z⟩
      · exact rec_ h
/-- a cell's new content leaves the same addresses hidden -/
theorem live_set : ∀ {ls : List Addr} {own : List Cell} {k : Nat} {c c' : Cell}, own[k]? = some c → c ≠ .gone → c' ≠ .gone → live ls (own.set k c') = live ls own
  | [], _, _, _, _, _, _, _ => by simp [live]
  | a :: ls, [], k, _, _, h, _, _ => by simp at h
  | a :: ls, e :: own, 0, c, c', h, hc, hc' => by
    simp at h
    subst h
    cases e <;> cases c' <;> simp only [List.set_cons_zero, live] <;> first | exact absurd rfl hc | exact absurd rfl hc'
  | a :: ls, e :: own, k + 1, c, c', h, hc, hc' => by
    have := live_set (ls := ls) (own := own) (k := k) (c := c) (c' := c') (by simpa using h) hc hc'
    cases e <;> simp only [List.set_cons_succ, live, this]
theorem live_snoc : ∀ {ls : List Addr} {own : List Cell} {l : Addr} {c : Cell}, ls.length = own.length → c ≠ .gone → live (ls ++ [l]) (own ++ [c]) = live ls own ++ [l]
  | [], [], l, c, _, hc => by cases c <;> simp [live] at hc ⊢
  | [], _ :: _, _, _, h, _ => by simp at h
  | _ :: _, [], _, _, h, _ => by simp at h
  | a :: ls, e :: own, l, c, h, hc => by
    have := live_snoc (ls := ls) (own := own) (l := l) (c := c) (by simpa using h) hc
    cases e <;> simp only [List.cons_append, live, this]

def RRep (K : PySem.W.Frag) (ls : List Addr) (G : Hp) : R → V → Prop
  | .d x, v => Rep K G x v
  | .c k, v => ∃ l, ls[k]? = some l ∧ v = .ref l
abbrev RReps (K : PySem.W.Frag) (ls : List Addr) (G : Hp) : List R → List V → Prop := Paired (RRep K ls G)
def CellAt (K : PySem.W.Frag) (ls : List Addr) (G H : Hp) (l : Addr) : Cell → Prop
  | .gone => True
  | .lst rs => ∃ xs, H l = some (.lst xs) ∧ RReps K ls G rs xs
  | .ins C ns rs => ∃ dx xs, H l = some (.ins C dx (ns.zip xs)) ∧ ns.length = rs.length ∧ RReps K ls G rs xs
  | .any P => ∃ xs ds, H l = some (.lst xs) ∧ Reps K G ds xs ∧ P ds
abbrev Fm.g (F : Fm) (ls : List Addr) (own : List Cell) (H : Hp) : Hp := msk (F.S0 ++ live ls own) H
structure St0 (K : PySem.W.Frag) (F : Fm) (ls : List Addr) (own : List Cell) (H : Hp) : Prop where
  len : ls.length = own.length
  nd : ls.Nodup
  new : ∀ l ∈ ls, l ∉ F.S0 ∧ (F.H0 l = none ∨ l ∈ F.mu)
  at_ : ∀ (k : Nat) (l : Addr) (c : Cell), ls[k]? = some l → own[k]? = some c → CellAt K ls (F.g ls own H) H l c
  keep : ∀ b o, b ∉ F.mu → F.H0 b = some o → H b = some o
  dom : ∀ b, F.H0 b ≠ none → H b ≠ none
  s0 : ∀ b ∈ F.S0, F.H0 b ≠ none
  there : ∀ l ∈ ls, H l ≠ none
  ap : F.la <+: ls
  as : Same F.ga (F.g ls own H)
/-- from one state to a later one -/
structure Le (F : Fm) (ls : List Addr) (own : List Cell) (H : Hp) (ls' : List Addr) (own' : List Cell) (H' : Hp) : Prop where
  pre : ls <+: ls'
  same : Same (F.g ls own H) (F.g ls' own' H')
theorem Le.refl {F : Fm} {ls : List Addr} {own : List Cell} {H : Hp} : Le F ls own H ls own H := ⟨List.prefix_rfl, Same.refl _⟩
theorem Le.trans {F : Fm} {ls ls1 ls2 : List Addr} {own own1 own2 : List Cell} {H H1 H2 : Hp} (a : Le F ls own H ls1 own1 H1) (b : Le F ls1 own1 H1 ls2 own2 H2) : Le F ls own H ls2 own2 H2 := ⟨a.pre.trans b.pre, a.same.trans b.same⟩
section
variable {K : PySem.W.Frag} {F : Fm} {ls ls' : List Addr} {own own' : List Cell} {H H' G G' : Hp}
theorem pre_get {k : Nat} {l : Addr} (p : ls <+: ls') (h : ls[k]? = some l) : ls'[k]? = some l := by
  obtain ⟨t, rfl⟩ := p
  have hk : k < ls.length := (List.getElem?_eq_some_iff.mp h).1
  rw [List.getElem?_append_left hk]
  exact h
theorem RRep.up {r : R} {v : V} (p : ls <+: ls') (e : Same G G') (h : RRep K ls G r v) : RRep K ls' G' r v := by
  cases r with
  | d x => exact Rep.mono (d := x) e h
  | c k =>
    obtain ⟨l, h1, h2⟩ := h
    exact ⟨l, pre_get p h1, h2⟩
theorem RReps.up {rs : List R} {vs : List V} (p : ls <+: ls') (e : Same G G') (h : RReps K ls G rs vs) : RReps K ls' G' rs vs := Paired.mapP h fun _ _ q => q.up p e
theorem RReps.ofD : ∀ {ds : List D} {xs : List V}, Reps K G ds xs → RReps K ls G (ds.map R.d) xs
  | [], _, h => by simp only [Reps] at h; subst h; exact .nil
  | d :: ds, _, h => by
    simp only [Reps] at h
    obtain ⟨x, r, rfl, h2, h3⟩ := h
    exact .cons h2 (RReps.ofD h3)
theorem RReps.toD : ∀ {ds : List D} {xs : List V}, RReps K ls G (ds.map R.d) xs → Reps K G ds xs
  | [], _, .nil => Reps.nil
  | d :: ds, _, .cons h t => Reps.cons h (RReps.toD t)
theorem RReps.length' : ∀ {rs : List R} {xs : List V}, RReps K ls G rs xs → rs.length = xs.length
  | _, _, .nil => rfl
  | _, _, .cons _ t => congrArg Nat.succ (RReps.length' t)
theorem RReps.get' : ∀ {rs : List R} {xs : List V} {i : Nat} {r : R}, RReps K ls G rs xs → rs[i]? = some r → ∃ x, xs[i]? = some x ∧ RRep K ls G r x
  | _, _, i, r, .nil, e => by simp at e
  | _, _, 0, r, .cons h t, e => by
    simp at e
    subst e
    exact ⟨_, rfl, h⟩
  | _, _, i + 1, r, .cons h t, e => by
    obtain ⟨x, e1, e2⟩ := RReps.get' (i := i) (r := r) t (by simpa using e)
    exact ⟨x, by simpa using e1, e2⟩
theorem CellAt.up {l : Addr} {c : Cell} (p : ls <+: ls') (e : Same G G') (hl : ∀ o, H l = some o → H' l = some o) (h : CellAt K ls G H l c) : CellAt K ls' G' H' l c := by
  cases c with
  | gone => exact True.intro
  | lst rs => obtain ⟨xs, h1, h2⟩ := h; exact ⟨xs, hl _ h1, h2.up p e⟩
  | ins C ns rs => obtain ⟨dx, xs, h1, h2, h3⟩ := h; exact ⟨dx, xs, hl _ h1, h2, h3.up p e⟩
  | any P => obtain ⟨xs, ds, h1, h2, h3⟩ := h; exact ⟨xs, ds, hl _ h1, Reps.mono e h2, h3⟩
/-- every hidden address is there -/
theorem St0.hid (s : St0 K F ls own H) : ∀ b ∈ F.S0 ++ live ls own, H b ≠ none := fun b hb => by
  rcases List.mem_append.mp hb with h | h
  · exact s.dom b (s.s0 b h)
  · obtain ⟨k, c, h1, h2, h3⟩ := live_of h
    have q := s.at_ k b c h1 h2
    cases c with
    | gone => exact absurd rfl h3
    | lst rs => obtain ⟨xs, e, _⟩ := q; rw [e]; exact fun z => by cases z
    | ins C ns rs => obtain ⟨dx, xs, e, _⟩ := q; rw [e]; exact fun z => by cases z
    | any P => obtain ⟨xs, ds, e, _⟩ := q; rw [e]; exact fun z => by cases z
/-- the heap grows -/
theorem St0.grow (s : St0 K F ls own H) (e : Same H H') : St0 K F ls own H' where
  len := s.len
  nd := s.nd
  new := s.new
  at_ := fun k l c h1 h2 => (s.at_ k l c h1 h2).up List.prefix_rfl (msk_mono e) fun o => e l o
  keep := fun b o h1 h2 => e _ _ (s.keep b o h1 h2)
  dom := fun b h => by
    have := s.dom b h
    cases q : H b with
    | none => exact absurd q this
    | some o => rw [e b o q]; exact fun z => by cases z
  s0 := s.s0
  there := fun b h => by
    have := s.there b h
    cases q : H b with
    | none => exact absurd q this
    | some o => rw [e b o q]; exact fun z => by cases z
  ap := s.ap
  as := s.as.trans (msk_mono e)
theorem Le.grow (e : Same H H') : Le F ls own H ls own H' := ⟨List.prefix_rfl, msk_mono e⟩
theorem same_new {p : Addr} {o : HO} (h : H p = none) : Same H (upd H p o) := fun b u e => by rw [upd_ne (ne_of_none e h)]; exact e
/-- a new object is seen -/
theorem St0.seen (s : St0 K F ls own H) {p : Addr} {o : HO} (hp : H p = none) : (F.g ls own (upd H p o)) p = some o := by
  have hn : p ∉ F.S0 ++ live ls own := fun z => s.hid p z hp
  show (msk (F.S0 ++ live ls own) (upd H p o)) p = some o
  rw [msk_out hn, upd_same]
end

/-! ### the names -/
def SR1 (K : PySem.W.Frag) (ls : List Addr) (G : Hp) : Option R → Option V → Prop
  | none, _ => True
  | some r, some v => RRep K ls G r v
  | some _, none => False
abbrev SRep (K : PySem.W.Frag) (ls : List Addr) (G : Hp) : List (Option R) → L2.St → Prop := Paired (SR1 K ls G)
section
variable {K : PySem.W.Frag} {F : Fm} {ls ls' : List Addr} {own own' : List Cell} {H H' G G' : Hp} {ρ : List (Option R)} {σ : L2.St}
theorem SRep.up (p : ls <+: ls') (e : Same G G') (h : SRep K ls G ρ σ) : SRep K ls' G' ρ σ := Paired.mapP h fun a b q => by
  cases a with
  | none => exact True.intro
  | some r =>
    cases b with
    | none => exact q.elim
    | some v => exact RRep.up p e q
theorem SRep.get : ∀ {ρ : List (Option R)} {σ : L2.St} {i : Nat} {r : R}, SRep K ls G ρ σ → ρ[i]? = some (some r) → ∃ v, σ[i]? = some (some v) ∧ RRep K ls G r v
  | _, _, i, r, .nil, e => by simp at e
  | _, _, 0, r, .cons (a := a) (b := b) h t, e => by
    simp at e
    subst e
    cases b with
    | none => exact h.elim
    | some v => exact ⟨v, rfl, h⟩
  | _, _, i + 1, r, .cons h t, e => by
    obtain ⟨v, e1, e2⟩ := SRep.get (i := i) (r := r) t (by simpa using e)
    exact ⟨v, by simpa using e1, e2⟩
theorem SRep.set {r : R} {v : V} (q : RRep K ls G r v) : ∀ {ρ : List (Option R)} {σ : L2.St} (i : Nat), SRep K ls G ρ σ → SRep K ls G (ρ.set i (some r)) (σ.set i (some v))
  | _, _, _, .nil => .nil
  | _, _, 0, .cons _ t => .cons q t
  | _, _, i + 1, .cons h t => .cons h (SRep.set q i t)
end
end DL

namespace DL
open PySem PySem.Spec PyProof.Rows L2

/-! ### judgements over data -/
abbrev QE := List Cell → R → Prop
abbrev QA := List Cell → List R → Prop
abbrev QT := List Cell → Bool → Prop
abbrev Ro := List (Option R)
/-- what a value's continuation is handed -/
def KV' (X : Cx) (F : Fm) (ls : List Addr) (own : List Cell) (H : Hp) (Q : QE) (Qv : VK) : Prop :=
  ∀ ls' own' H' r v, Le F ls own H ls' own' H' → St0 X.K F ls' own' H' → RRep X.K ls' (F.g ls' own' H') r v → Q own' r → Qv v H'
structure E (X : Cx) (F : Fm) (e : Expr) (Q : QE) (own : List Cell) (ρ : Ro)  : Prop where
  mk :: (run : ∀ ls σ H, St0 X.K F ls own H → SRep X.K ls (F.g ls own H) ρ σ → ∀ Qv : VK, KV' X F ls own H Q Qv → we X e σ H Qv)
instance {X : Cx} {F : Fm} {e : Expr} {Q : QE} {own : List Cell} {ρ : Ro}  : CoeFun (E X F e Q own ρ) (fun _ => ∀ ls σ H, St0 X.K F ls own H → SRep X.K ls (F.g ls own H) ρ σ → ∀ Qv : VK, KV' X F ls own H Q Qv → we X e σ H Qv) := ⟨E.run⟩
structure A (X : Cx) (F : Fm) (es : List Expr) (Q : QA) (own : List Cell) (ρ : Ro)  : Prop where
  mk :: (run : ∀ ls σ H, St0 X.K F ls own H → SRep X.K ls (F.g ls own H) ρ σ → ∀ Qv : List V → Hp → Prop,
    (∀ ls' own' H' rs vs, Le F ls own H ls' own' H' → St0 X.K F ls' own' H' → RReps X.K ls' (F.g ls' own' H') rs vs → Q own' rs → Qv vs H') → wa X es σ H Qv)
instance {X : Cx} {F : Fm} {es : List Expr} {Q : QA} {own : List Cell} {ρ : Ro}  : CoeFun (A X F es Q own ρ) (fun _ => ∀ ls σ H, St0 X.K F ls own H → SRep X.K ls (F.g ls own H) ρ σ → ∀ Qv : List V → Hp → Prop,
    (∀ ls' own' H' rs vs, Le F ls own H ls' own' H' → St0 X.K F ls' own' H' → RReps X.K ls' (F.g ls' own' H') rs vs → Q own' rs → Qv vs H') → wa X es σ H Qv) := ⟨A.run⟩
/-- operations by their names -/
inductive Opk where
  | bin (o : Operator) | cmp (o : CmpOp) | aug (o : Operator)
def Opk.f : Opk → Value → Value → Sem Value
  | .bin o => binaryOp o
  | .cmp o => compareOp o
  | .aug o => inplaceOp o
/-- a two-place operation on values -/
structure O2 (X : Cx) (F : Fm) (f : Opk) (x y : R) (Q : QE) (own : List Cell)  : Prop where
  mk :: (run : ∀ ls H u v, St0 X.K F ls own H → RRep X.K ls (F.g ls own H) x u → RRep X.K ls (F.g ls own H) y v → ∀ Qv : VK, KV' X F ls own H Q Qv → wop X f.f u v H Qv)
instance {X : Cx} {F : Fm} {f : Opk} {x y : R} {Q : QE} {own : List Cell}  : CoeFun (O2 X F f x y Q own) (fun _ => ∀ ls H u v, St0 X.K F ls own H → RRep X.K ls (F.g ls own H) x u → RRep X.K ls (F.g ls own H) y v → ∀ Qv : VK, KV' X F ls own H Q Qv → wop X f.f u v H Qv) := ⟨O2.run⟩
structure O1 (X : Cx) (F : Fm) (f : UnaryOp) (x : R) (Q : QE) (own : List Cell)  : Prop where
  mk :: (run : ∀ ls H u, St0 X.K F ls own H → RRep X.K ls (F.g ls own H) x u → ∀ Qv : VK, KV' X F ls own H Q Qv → wun X (unaryOp f) u H Qv)
instance {X : Cx} {F : Fm} {f : UnaryOp} {x : R} {Q : QE} {own : List Cell}  : CoeFun (O1 X F f x Q own) (fun _ => ∀ ls H u, St0 X.K F ls own H → RRep X.K ls (F.g ls own H) x u → ∀ Qv : VK, KV' X F ls own H Q Qv → wun X (unaryOp f) u H Qv) := ⟨O1.run⟩
/-- the call of a value that is known -/
structure Cl (X : Cx) (F : Fm) (f : Value) (rs : List R) (Q : QE) (own : List Cell)  : Prop where
  mk :: (run : ∀ ls H vs, St0 X.K F ls own H → RReps X.K ls (F.g ls own H) rs vs → ∀ Qv : VK, KV' X F ls own H Q Qv → wcall X f vs H Qv)
instance {X : Cx} {F : Fm} {f : Value} {rs : List R} {Q : QE} {own : List Cell}  : CoeFun (Cl X F f rs Q own) (fun _ => ∀ ls H vs, St0 X.K F ls own H → RReps X.K ls (F.g ls own H) rs vs → ∀ Qv : VK, KV' X F ls own H Q Qv → wcall X f vs H Qv) := ⟨Cl.run⟩
structure T (X : Cx) (F : Fm) (e : Expr) (Q : QT) (own : List Cell) (ρ : Ro)  : Prop where
  mk :: (run : ∀ ls σ H, St0 X.K F ls own H → SRep X.K ls (F.g ls own H) ρ σ → ∀ Qb : Bool → Hp → Prop,
    (∀ ls' own' H' b, Le F ls own H ls' own' H' → St0 X.K F ls' own' H' → Q own' b → Qb b H') → wt X e σ H Qb)
instance {X : Cx} {F : Fm} {e : Expr} {Q : QT} {own : List Cell} {ρ : Ro}  : CoeFun (T X F e Q own ρ) (fun _ => ∀ ls σ H, St0 X.K F ls own H → SRep X.K ls (F.g ls own H) ρ σ → ∀ Qb : Bool → Hp → Prop,
    (∀ ls' own' H' b, Le F ls own H ls' own' H' → St0 X.K F ls' own' H' → Q own' b → Qb b H') → wt X e σ H Qb) := ⟨T.run⟩
structure Tw (X : Cx) (F : Fm) (e : Expr) (Q : QT) (own : List Cell) (ρ : Ro)  : Prop where
  mk :: (run : ∀ ls σ H, St0 X.K F ls own H → SRep X.K ls (F.g ls own H) ρ σ → ∀ Qb : Bool → Hp → Prop,
    (∀ ls' own' H' b, Le F ls own H ls' own' H' → St0 X.K F ls' own' H' → Q own' b → Qb b H') → ww X e σ H Qb)
instance {X : Cx} {F : Fm} {e : Expr} {Q : QT} {own : List Cell} {ρ : Ro}  : CoeFun (Tw X F e Q own ρ) (fun _ => ∀ ls σ H, St0 X.K F ls own H → SRep X.K ls (F.g ls own H) ρ σ → ∀ Qb : Bool → Hp → Prop,
    (∀ ls' own' H' b, Le F ls own H ls' own' H' → St0 X.K F ls' own' H' → Q own' b → Qb b H') → ww X e σ H Qb) := ⟨Tw.run⟩
/-- a value's truth -/
structure Tr (X : Cx) (F : Fm) (x : R) (Q : QT) (own : List Cell)  : Prop where
  mk :: (run : ∀ ls H u, St0 X.K F ls own H → RRep X.K ls (F.g ls own H) x u → ∀ Qb : Bool → Hp → Prop,
    (∀ ls' own' H' b, Le F ls own H ls' own' H' → St0 X.K F ls' own' H' → Q own' b → Qb b H') → wtr X u H Qb)
instance {X : Cx} {F : Fm} {x : R} {Q : QT} {own : List Cell}  : CoeFun (Tr X F x Q own) (fun _ => ∀ ls H u, St0 X.K F ls own H → RRep X.K ls (F.g ls own H) x u → ∀ Qb : Bool → Hp → Prop,
    (∀ ls' own' H' b, Le F ls own H ls' own' H' → St0 X.K F ls' own' H' → Q own' b → Qb b H') → wtr X u H Qb) := ⟨Tr.run⟩

/-! ### statements -/
structure Po where
  nx : List Cell → Ro → Prop
  rt : List Cell → R → Prop
  bk : List Cell → Ro → Prop := fun _ _ => False
  ct : List Cell → Ro → Prop := fun _ _ => False
structure EndsOk (X : Cx) (F : Fm) (ls : List Addr) (own : List Cell) (H : Hp) (P : Po) (De : Ends) : Prop where
  nx : ∀ ls' own' H' ρ σ, Le F ls own H ls' own' H' → St0 X.K F ls' own' H' → SRep X.K ls' (F.g ls' own' H') ρ σ → P.nx own' ρ → De.nx σ H'
  rt : ∀ ls' own' H' r v, Le F ls own H ls' own' H' → St0 X.K F ls' own' H' → RRep X.K ls' (F.g ls' own' H') r v → P.rt own' r → De.rt v H'
  bk : ∀ ls' own' H' ρ σ, Le F ls own H ls' own' H' → St0 X.K F ls' own' H' → SRep X.K ls' (F.g ls' own' H') ρ σ → P.bk own' ρ → De.bk σ H'
  ct : ∀ ls' own' H' ρ σ, Le F ls own H ls' own' H' → St0 X.K F ls' own' H' → SRep X.K ls' (F.g ls' own' H') ρ σ → P.ct own' ρ → De.ct σ H'
structure W1 (X : Cx) (F : Fm) (st : Stmt) (P : Po) (own : List Cell) (ρ : Ro)  : Prop where
  mk :: (run : ∀ ls σ H, St0 X.K F ls own H → SRep X.K ls (F.g ls own H) ρ σ → ∀ De, EndsOk X F ls own H P De → ws1 X st De σ H)
instance {X : Cx} {F : Fm} {st : Stmt} {P : Po} {own : List Cell} {ρ : Ro}  : CoeFun (W1 X F st P own ρ) (fun _ => ∀ ls σ H, St0 X.K F ls own H → SRep X.K ls (F.g ls own H) ρ σ → ∀ De, EndsOk X F ls own H P De → ws1 X st De σ H) := ⟨W1.run⟩
structure W (X : Cx) (F : Fm) (sts : List Stmt) (P : Po) (own : List Cell) (ρ : Ro)  : Prop where
  mk :: (run : ∀ ls σ H, St0 X.K F ls own H → SRep X.K ls (F.g ls own H) ρ σ → ∀ De, EndsOk X F ls own H P De → ws X sts De σ H)
instance {X : Cx} {F : Fm} {sts : List Stmt} {P : Po} {own : List Cell} {ρ : Ro}  : CoeFun (W X F sts P own ρ) (fun _ => ∀ ls σ H, St0 X.K F ls own H → SRep X.K ls (F.g ls own H) ρ σ → ∀ De, EndsOk X F ls own H P De → ws X sts De σ H) := ⟨W.run⟩
/-- the target of an assignment -/
def wpg (X : Cx) (tg : Expr) : TG := fun v σ H Q => ∀ pins s u, Inv X pins σ H s → RelV v u → wpAny (model X.prog X.w) X.A (assign tg X.env u) (fun _ s' => ∃ σ' H', Inv X pins σ' H' s' ∧ Q σ' H') X.xe s

theorem EndsOk.up {X : Cx} {F : Fm} {ls ls' : List Addr} {own own' : List Cell} {H H' : Hp} {P : Po} {De : Ends} (le : Le F ls own H ls' own' H') (h : EndsOk X F ls own H P De) : EndsOk X F ls' own' H' P De :=
  ⟨fun _ _ _ _ _ l => h.nx _ _ _ _ _ (le.trans l), fun _ _ _ _ _ l => h.rt _ _ _ _ _ (le.trans l), fun _ _ _ _ _ l => h.bk _ _ _ _ _ (le.trans l), fun _ _ _ _ _ l => h.ct _ _ _ _ _ (le.trans l)⟩

section
variable {X : Cx} {F : Fm} {own : List Cell} {ρ : Ro} {Q : QE} {QA : QA} {QT : QT} {a b c e : Expr} {es : List Expr} {pos : Pos}

/-! ### expressions -/
theorem E.mono {Q' : QE} (k : ∀ o r, Q o r → Q' o r) (h : E X F e Q own ρ) : E X F e Q' own ρ := .mk fun ls σ H st sr Qv kk => h ls σ H st sr Qv fun _ _ _ _ _ l s r q => kk _ _ _ _ _ l s r (k _ _ q)
theorem E.var (i : Nat) {x : Str} {r : R} (hr : ρ[i]? = some (some r)) (h : Q own r) (hN : X.N[i]? = some x := by rfl) (hv : Vis X.env.scope x := by first | exact Or.inl rfl | exact Or.inr (Or.inl rfl) | exact Or.inr (Or.inr rfl)) (hd : (x == ("__debug__" : Str)) = false := by decide)
    (hcd : (x == ("__classdict__" : Str)) = false := by decide) : E X F (.Name x pos) Q own ρ := by
  constructor
  intro ls σ H st sr Qv k
  obtain ⟨v, e1, rv⟩ := sr.get hr
  exact (pe_var hN hv hd hcd).to ⟨v, e1, k _ _ _ r v Le.refl st rv h⟩
theorem E.int {i j} (h : Q own (.d (.int i))) : E X F (.Constant (.int i) j pos) Q own ρ := .mk fun ls σ H st sr Qv k => pe_int.to (k _ _ _ (.d (.int i)) _ Le.refl st (by simp only [RRep, Rep]) h)
theorem E.bl {b j} (h : Q own (.d (.bl b))) : E X F (.Constant (.bool b) j pos) Q own ρ := .mk fun ls σ H st sr Qv k => pe_bl.to (k _ _ _ (.d (.bl b)) _ Le.refl st (by simp only [RRep, Rep]) h)
theorem E.non {j} (h : Q own (.d .non)) : E X F (.Constant .none j pos) Q own ρ := .mk fun ls σ H st sr Qv k => pe_non.to (k _ _ _ (.d .non) _ Le.refl st (by simp only [RRep, Rep]) h)
theorem E.str {x j} (h : Q own (.d (.str x))) : E X F (.Constant (.str x) j pos) Q own ρ := .mk fun ls σ H st sr Qv k => pe_str.to (k _ _ _ (.d (.str x)) _ Le.refl st (by simp only [RRep, Rep]) h)
/-- a constant of the module -/
theorem E.globI {x : Str} {i : Int} {t : Tok} (hm : X.mg x = some (.int i t)) (h : Q own (.d (.int i))) (hg : Gl X x := by rfl) (hd : (x == ("__debug__" : Str)) = false := by decide) : E X F (.Name x pos) Q own ρ :=
  .mk fun ls σ H st sr Qv k => (pe_glob (v := .int i) hg hm ⟨t, rfl⟩ hd).to (k _ _ _ (.d (.int i)) _ Le.refl st (by simp only [RRep, Rep]) h)
theorem E.globS {x s : Str} {t : Tok} (hm : X.mg x = some (.str s t)) (h : Q own (.d (.str s))) (hg : Gl X x := by rfl) (hd : (x == ("__debug__" : Str)) = false := by decide) : E X F (.Name x pos) Q own ρ :=
  .mk fun ls σ H st sr Qv k => (pe_glob (v := .str s) hg hm ⟨t, rfl⟩ hd).to (k _ _ _ (.d (.str s)) _ Le.refl st (by simp only [RRep, Rep]) h)
/-- a class or a def of the module -/
theorem E.globR {x : Str} {p : Addr} (hm : X.mg x = some (.ref p)) (h : Q own (.d (.ref p))) (hg : Gl X x := by rfl) (hd : (x == ("__debug__" : Str)) = false := by decide) : E X F (.Name x pos) Q own ρ :=
  .mk fun ls σ H st sr Qv k => (pe_glob (v := .ref p) hg hm rfl hd).to (k _ _ _ (.d (.ref p)) _ Le.refl st (by simp only [RRep, Rep]) h)
/-- a built-in class by its name -/
theorem E.bty {x : Str} {n : String} (hm : X.mg x = none) (hv : bootBuiltins x = some (.type n)) (h : Q own (.d (.ty n))) (hg : Gl X x := by rfl) (hn : x ≠ "__name__" := by decide) (hd : (x == ("__debug__" : Str)) = false := by decide) : E X F (.Name x pos) Q own ρ :=
  .mk fun ls σ H st sr Qv k => (pe_bltn (v := .ty n) hg hm hv rfl hn hd).to (k _ _ _ (.d (.ty n)) _ Le.refl st (by simp only [RRep, Rep]) h)
theorem E.bin {op : Operator} (h : E X F a (fun o x => E X F b (fun o2 y => O2 X F (.bin op) x y Q o2) o ρ) own ρ) : E X F (.BinOp a op b pos) Q own ρ := by
  constructor
  intro ls σ H st sr Qv k
  refine (pe_op opr_wop pe_we pe_we).to ?_
  refine h ls σ H st sr _ fun ls1 own1 H1 x u l1 s1 rx hb => ?_
  refine hb ls1 σ H1 s1 (sr.up l1.pre l1.same) _ fun ls2 own2 H2 y v l2 s2 ry ho => ?_
  exact ho ls2 H2 u v s2 (rx.up l2.pre l2.same) ry Qv fun _ _ _ _ _ l3 => k _ _ _ _ _ ((l1.trans l2).trans l3)
theorem E.un {op : UnaryOp} (h : E X F a (fun o x => O1 X F op x Q o) own ρ) : E X F (.UnaryOp op a pos) Q own ρ := by
  constructor
  intro ls σ H st sr Qv k
  refine (pe_un unr_wun pe_we).to ?_
  refine h ls σ H st sr _ fun ls1 own1 H1 x u l1 s1 rx ho => ?_
  exact ho ls1 H1 u s1 rx Qv fun _ _ _ _ _ l3 => k _ _ _ _ _ (l1.trans l3)
/-- one comparison as a value -/
theorem E.cmp {op : CmpOp} (h : E X F a (fun o x => E X F b (fun o2 y => O2 X F (.cmp op) x y Q o2) o ρ) own ρ) (hm : behindInMarks op b = false := by first | exact nomark _ | rfl | with_unfolding_all rfl) : E X F (.Compare a [op] [b] pos) Q own ρ := by
  constructor
  intro ls σ H st sr Qv k
  refine (pe_cmpR opr_wop pe_we pe_we hm).to ?_
  refine h ls σ H st sr _ fun ls1 own1 H1 x u l1 s1 rx hb => ?_
  refine hb ls1 σ H1 s1 (sr.up l1.pre l1.same) _ fun ls2 own2 H2 y v l2 s2 ry ho => ?_
  exact ho ls2 H2 u v s2 (rx.up l2.pre l2.same) ry Qv fun _ _ _ _ _ l3 => k _ _ _ _ _ ((l1.trans l2).trans l3)
theorem T.cmp {op : CmpOp} (h : E X F a (fun o x => E X F b (fun o2 y => O2 X F (.cmp op) x y (fun o3 z => ∃ k, z = .d (.bl k) ∧ QT o3 k) o2) o ρ) own ρ) (hm : behindInMarks op b = false := by first | exact nomark _ | rfl | with_unfolding_all rfl) : T X F (.Compare a [op] [b] pos) QT own ρ := by
  constructor
  intro ls σ H st sr Qv k
  refine (pt_cmpR opr_wop pe_we pe_we hm).to ?_
  refine h ls σ H st sr _ fun ls1 own1 H1 x u l1 s1 rx hb => ?_
  refine hb ls1 σ H1 s1 (sr.up l1.pre l1.same) _ fun ls2 own2 H2 y v l2 s2 ry ho => ?_
  refine ho ls2 H2 u v s2 (rx.up l2.pre l2.same) ry _ fun _ _ _ r w l3 s3 rr ⟨kk, ez, q⟩ => ?_
  subst ez
  have rr' : w = V.bl kk := by simpa only [RRep, Rep] using rr
  exact ⟨kk, rr', k _ _ _ kk ((l1.trans l2).trans l3) s3 q⟩
/-- a test that is a value's truth -/
theorem T.truth (h : E X F a (fun o x => Tr X F x QT o) own ρ) (he : ∀ whole, isTrue a X.env whole = (do let v ← whole; standAt a.pos; holding [v] (truthy v)) := by intro _; rfl) : T X F a QT own ρ := by
  constructor
  intro ls σ H st sr Qv k
  refine (pt_truthR pe_we tru_w he).to ?_
  refine h ls σ H st sr _ fun ls1 own1 H1 x u l1 s1 rx ho => ?_
  exact ho ls1 H1 u s1 rx Qv fun _ _ _ _ l3 => k _ _ _ _ (l1.trans l3)
theorem Tr.bl {b : Bool} (h : QT own b) : Tr X F (.d (.bl b)) QT own := .mk fun ls H u st rx Qb k => by
  have e : u = V.bl b := by simpa only [RRep, Rep] using rx
  subst e
  exact fun pins σ s v I rv => by cases rv; exact wpAny_truthy_bool ⟨H, I, k _ _ _ b Le.refl st h⟩
theorem T.not (h : T X F a (fun o b => QT o (!b)) own ρ) : T X F (.UnaryOp .Not a pos) QT own ρ := .mk fun ls σ H st sr Qb k =>
  (pt_not pt_wt).to (h ls σ H st sr _ fun _ _ _ b l s q => k _ _ _ _ l s q)
theorem Tw.t (h : Tw X F a QT own ρ) : T X F a QT own ρ := .mk fun ls σ H st sr Qb k => (PW.pt pw_ww).to (h ls σ H st sr Qb k)
theorem Tw.and1 (h : T X F a QT own ρ) : Tw X F (.BoolOp .And [a] pos) QT own ρ := .mk fun ls σ H st sr Qb k => (pw_and1 pt_wt).to (h ls σ H st sr Qb k)
theorem Tw.or1 (h : T X F a QT own ρ) : Tw X F (.BoolOp .Or [a] pos) QT own ρ := .mk fun ls σ H st sr Qb k => (pw_or1 pt_wt).to (h ls σ H st sr Qb k)
theorem Tw.and (h : T X F a (fun o k => if k = true then Tw X F (.BoolOp .And (b :: es) pos) QT o ρ else QT o false) own ρ) : Tw X F (.BoolOp .And (a :: b :: es) pos) QT own ρ := by
  constructor
  intro ls σ H st sr Qb k
  refine (pw_and pt_wt pw_ww).to ?_
  refine h ls σ H st sr _ fun ls1 own1 H1 kb l1 s1 q => ?_
  cases kb with
  | true =>
    refine iteT ?_
    exact (show Tw X F _ QT own1 ρ from q) ls1 σ H1 s1 (sr.up l1.pre l1.same) Qb fun _ _ _ _ l3 => k _ _ _ _ (l1.trans l3)
  | false => exact iteF (k _ _ _ _ l1 s1 q)
theorem Tw.or (h : T X F a (fun o k => if k = true then QT o true else Tw X F (.BoolOp .Or (b :: es) pos) QT o ρ) own ρ) : Tw X F (.BoolOp .Or (a :: b :: es) pos) QT own ρ := by
  constructor
  intro ls σ H st sr Qb k
  refine (pw_or pt_wt pw_ww).to ?_
  refine h ls σ H st sr _ fun ls1 own1 H1 kb l1 s1 q => ?_
  cases kb with
  | false =>
    refine iteF ?_
    exact (show Tw X F _ QT own1 ρ from q) ls1 σ H1 s1 (sr.up l1.pre l1.same) Qb fun _ _ _ _ l3 => k _ _ _ _ (l1.trans l3)
  | true => exact iteT (k _ _ _ _ l1 s1 q)
/-- a and b, a or b, not a as values, all but the last a truth value -/
theorem E.one {op} (h : E X F a Q own ρ) : E X F (.BoolOp op [a] pos) Q own ρ := .mk fun ls σ H st sr Qv k => (pe_one pe_we).to (h ls σ H st sr Qv k)
theorem E.and (h : E X F a (fun o x => ∃ k, x = .d (.bl k) ∧ if k = true then E X F (.BoolOp .And (b :: es) pos) Q o ρ else Q o (.d (.bl false))) own ρ) : E X F (.BoolOp .And (a :: b :: es) pos) Q own ρ := by
  constructor
  intro ls σ H st sr Qv k
  refine (pe_and pe_we pe_we).to ?_
  refine h ls σ H st sr _ fun ls1 own1 H1 x u l1 s1 rx ⟨kb, ex, q⟩ => ?_
  subst ex
  refine ⟨kb, by simpa only [RRep, Rep] using rx, ?_⟩
  cases kb with
  | true =>
    refine iteT ?_
    exact (show E X F _ Q own1 ρ from q) ls1 σ H1 s1 (sr.up l1.pre l1.same) Qv fun _ _ _ _ _ l3 => k _ _ _ _ _ (l1.trans l3)
  | false => exact iteF (k _ _ _ (.d (.bl false)) _ l1 s1 (by simp only [RRep, Rep]) q)
theorem E.or (h : E X F a (fun o x => ∃ k, x = .d (.bl k) ∧ if k = true then Q o (.d (.bl true)) else E X F (.BoolOp .Or (b :: es) pos) Q o ρ) own ρ) : E X F (.BoolOp .Or (a :: b :: es) pos) Q own ρ := by
  constructor
  intro ls σ H st sr Qv k
  refine (pe_or pe_we pe_we).to ?_
  refine h ls σ H st sr _ fun ls1 own1 H1 x u l1 s1 rx ⟨kb, ex, q⟩ => ?_
  subst ex
  refine ⟨kb, by simpa only [RRep, Rep] using rx, ?_⟩
  cases kb with
  | false =>
    refine iteF ?_
    exact (show E X F _ Q own1 ρ from q) ls1 σ H1 s1 (sr.up l1.pre l1.same) Qv fun _ _ _ _ _ l3 => k _ _ _ _ _ (l1.trans l3)
  | true => exact iteT (k _ _ _ (.d (.bl true)) _ l1 s1 (by simp only [RRep, Rep]) q)
theorem E.not (h : E X F a (fun o x => ∃ k, x = .d (.bl k) ∧ Q o (.d (.bl (!k)))) own ρ) : E X F (.UnaryOp .Not a pos) Q own ρ := by
  constructor
  intro ls σ H st sr Qv k
  refine (pe_not pe_we).to ?_
  refine h ls σ H st sr _ fun ls1 own1 H1 x u l1 s1 rx ⟨kb, ex, q⟩ => ?_
  subst ex
  exact ⟨kb, by simpa only [RRep, Rep] using rx, k _ _ _ (.d (.bl (!kb))) _ l1 s1 (by simp only [RRep, Rep]) q⟩
theorem E.ifExp (h : T X F c (fun o k => if k = true then E X F a Q o ρ else E X F b Q o ρ) own ρ) : E X F (.IfExp c a b pos) Q own ρ := by
  constructor
  intro ls σ H st sr Qv k
  refine (pe_ifExp pt_wt pe_we pe_we).to ?_
  refine h ls σ H st sr _ fun ls1 own1 H1 kb l1 s1 q => ?_
  cases kb with
  | true => exact iteT ((show E X F a Q own1 ρ from q) ls1 σ H1 s1 (sr.up l1.pre l1.same) Qv fun _ _ _ _ _ l3 => k _ _ _ _ _ (l1.trans l3))
  | false => exact iteF ((show E X F b Q own1 ρ from q) ls1 σ H1 s1 (sr.up l1.pre l1.same) Qv fun _ _ _ _ _ l3 => k _ _ _ _ _ (l1.trans l3))

/-! ### argument lists, displays -/
theorem A.nil (h : QA own []) : A X F [] QA own ρ := .mk fun ls σ H st sr Qv k => pa_nil.to (k _ _ _ [] [] Le.refl st .nil h)
theorem A.cons (h : E X F e (fun o r => A X F es (fun o2 rs => QA o2 (r :: rs)) o ρ) own ρ) (hs : starEach (e :: es) X.env = (false, eval e X.env) :: starEach es X.env := by rfl) : A X F (e :: es) QA own ρ := by
  constructor
  intro ls σ H st sr Qv k
  refine (pa_cons pe_we pa_wa hs).to ?_
  refine h ls σ H st sr _ fun ls1 own1 H1 x u l1 s1 rx hb => ?_
  exact hb ls1 σ H1 s1 (sr.up l1.pre l1.same) _ fun ls2 own2 H2 rs vs l2 s2 rr q => k _ _ _ (x :: rs) (u :: vs) (l1.trans l2) s2 (.cons (rx.up l2.pre l2.same) rr) q
theorem E.tup {k0} (h : A X F es (fun o rs => ∃ ds : List D, rs = ds.map R.d ∧ ds.length ≤ sizeLine ∧ Q o (.d (.tup ds))) own ρ) : E X F (.Tuple es k0 pos) Q own ρ := by
  constructor
  intro ls σ H st sr Qv k
  refine (pe_tup pa_wa).to ?_
  refine h ls σ H st sr _ fun ls1 own1 H1 rs vs l1 s1 rr ⟨ds, er, hl, q⟩ => ?_
  subst er
  have rd := RReps.toD rr
  refine ⟨by rw [← rd.length]; exact hl, fun p hp => ?_⟩
  refine k _ _ _ (.d (.tup ds)) _ (l1.trans (Le.grow (same_new hp))) (s1.grow (same_new hp)) ?_ q
  simp only [RRep, Rep]
  exact ⟨p, vs, rfl, .inl (.inl (s1.seen hp)), Reps.mono (msk_mono (same_new hp)) rd⟩
theorem E.lst (h : A X F es (fun o rs => ∃ ds : List D, rs = ds.map R.d ∧ ds.length ≤ sizeLine ∧ Q o (.d (.lst ds))) own ρ) : E X F (.List es pos) Q own ρ := by
  constructor
  intro ls σ H st sr Qv k
  refine (pe_lst pa_wa).to ?_
  refine h ls σ H st sr _ fun ls1 own1 H1 rs vs l1 s1 rr ⟨ds, er, hl, q⟩ => ?_
  subst er
  have rd := RReps.toD rr
  refine ⟨by rw [← rd.length]; exact hl, fun p hp => ?_⟩
  refine k _ _ _ (.d (.lst ds)) _ (l1.trans (Le.grow (same_new hp))) (s1.grow (same_new hp)) ?_ q
  simp only [RRep, Rep]
  exact ⟨p, vs, rfl, s1.seen hp, Reps.mono (msk_mono (same_new hp)) rd⟩

/-! ### calls of built-ins -/
theorem E.callB {x : Str} {p : Pos} {id : String} (hm : X.mg x = none) (hv : bootBuiltins x = some (.builtin id)) (h : A X F (e :: es) (fun o rs => Cl X F (.builtin id) rs Q o) own ρ) (hg : Gl X x := by rfl) (hn : x ≠ "__name__" := by decide) (hdb : (x == ("__debug__" : Str)) = false := by decide)
    (he : starEach (e :: es) X.env = (false, eval e X.env) :: starEach es X.env := by rfl) (hpl : (backTo pos (starEach es X.env)).any (·.1) = false := by rfl) : E X F (.Call (.Name x p) (e :: es) [] pos) Q own ρ := by
  constructor
  intro ls σ H st sr Qv k
  refine (pe_callB callr_w hg hm hv pa_wa hn hdb he hpl).to ?_
  exact h ls σ H st sr _ fun ls1 own1 H1 rs vs l1 s1 rr q => q ls1 H1 vs s1 rr Qv fun _ _ _ _ _ l3 => k _ _ _ _ _ (l1.trans l3)
theorem E.callTy {x : Str} {p : Pos} {n : String} (hm : X.mg x = none) (hv : bootBuiltins x = some (.type n)) (h : A X F (e :: es) (fun o rs => Cl X F (.type n) rs Q o) own ρ) (hg : Gl X x := by rfl) (hn : x ≠ "__name__" := by decide) (hdb : (x == ("__debug__" : Str)) = false := by decide)
    (he : starEach (e :: es) X.env = (false, eval e X.env) :: starEach es X.env := by rfl) (hpl : (backTo pos (starEach es X.env)).any (·.1) = false := by rfl) : E X F (.Call (.Name x p) (e :: es) [] pos) Q own ρ := by
  constructor
  intro ls σ H st sr Qv k
  refine (pe_callTy callr_w hg hm hv pa_wa hn hdb he hpl).to ?_
  exact h ls σ H st sr _ fun ls1 own1 H1 rs vs l1 s1 rr q => q ls1 H1 vs s1 rr Qv fun _ _ _ _ _ l3 => k _ _ _ _ _ (l1.trans l3)
/-- a built-in function that stands at a module's name -/
theorem E.callG {x : Str} {p : Pos} {id : String} (hm : X.mg x = some (.builtin id)) (h : A X F (e :: es) (fun o rs => Cl X F (.builtin id) rs Q o) own ρ) (hg : Gl X x := by rfl) (hdb : (x == ("__debug__" : Str)) = false := by decide)
    (he : starEach (e :: es) X.env = (false, eval e X.env) :: starEach es X.env := by rfl) (hpl : (backTo pos (starEach es X.env)).any (·.1) = false := by rfl) : E X F (.Call (.Name x p) (e :: es) [] pos) Q own ρ := by
  constructor
  intro ls σ H st sr Qv k
  refine (pe_callBfun callr_w hg hm pa_wa hdb he hpl).to ?_
  exact h ls σ H st sr _ fun ls1 own1 H1 rs vs l1 s1 rr q => q ls1 H1 vs s1 rr Qv fun _ _ _ _ _ l3 => k _ _ _ _ _ (l1.trans l3)

/-! ### statements -/
variable {P : Po} {st : Stmt} {sts rest : List Stmt}
theorem W.nil (h : P.nx own ρ) : W X F [] P own ρ := .mk fun ls σ H st sr De k => pss_nil.to (k.nx _ _ _ ρ σ Le.refl st sr h)
theorem W.cons (h : W1 X F st { P with nx := W X F rest P } own ρ) : W X F (st :: rest) P own ρ := by
  constructor
  intro ls σ H s0 sr De k
  refine (pss_cons ps_ws1 pss_ws).to ?_
  refine h ls σ H s0 sr { De with nx := ws X rest De } ⟨fun ls' own' H' ρ' σ' l s r q => ?_, fun _ _ _ _ _ l s r q => k.rt _ _ _ _ _ l s r q, fun _ _ _ _ _ l s r q => k.bk _ _ _ _ _ l s r q, fun _ _ _ _ _ l s r q => k.ct _ _ _ _ _ l s r q⟩
  exact (show W X F rest P own' ρ' from q) ls' σ' H' s r De (k.up l)
theorem W.one (h : W1 X F st P own ρ) : W X F [st] P own ρ := .mk fun ls σ H s0 sr De k => (pss_one ps_ws1).to (h ls σ H s0 sr De k)
theorem W1.pass (h : P.nx own ρ) : W1 X F (.Pass pos) P own ρ := .mk fun ls σ H st sr De k => ps_pass.to (k.nx _ _ _ ρ σ Le.refl st sr h)
theorem W1.brk (h : P.bk own ρ) : W1 X F (.Break pos) P own ρ := .mk fun ls σ H st sr De k => ps_break.to (k.bk _ _ _ ρ σ Le.refl st sr h)
theorem W1.cont (h : P.ct own ρ) : W1 X F (.Continue pos) P own ρ := .mk fun ls σ H st sr De k => ps_continue.to (k.ct _ _ _ ρ σ Le.refl st sr h)
theorem W1.expr (h : E X F e (fun o _ => P.nx o ρ) own ρ) (hs : swapsWith e none pos.line X.env = pure false := by rfl) : W1 X F (.Expr e pos) P own ρ := by
  constructor
  intro ls σ H s0 sr De k
  refine (ps_expr pe_we hs).to ?_
  exact h ls σ H s0 sr _ fun _ _ _ _ _ l s r q => k.nx _ _ _ ρ σ l s (sr.up l.pre l.same) q
theorem W1.ret (h : E X F e P.rt own ρ) : W1 X F (.Return (some e) pos) P own ρ := by
  constructor
  intro ls σ H s0 sr De k
  refine (ps_ret pe_we).to ?_
  exact h ls σ H s0 sr _ fun _ _ _ _ _ l s r q => k.rt _ _ _ _ _ l s r q
theorem W1.retN (h : P.rt own (.d .non)) : W1 X F (.Return none pos) P own ρ := .mk fun ls σ H s0 sr De k => ps_retN.to (k.rt _ _ _ (.d .non) _ Le.refl s0 (by simp only [RRep, Rep]) h)
theorem W1.iff {sa sb : List Stmt} (h : T X F c (fun o k => if k = true then W X F sa P o ρ else W X F sb P o ρ) own ρ) : W1 X F (.If c sa sb pos) P own ρ := by
  constructor
  intro ls σ H s0 sr De k
  refine (ps_if pt_wt pss_ws pss_ws).to ?_
  refine h ls σ H s0 sr _ fun ls1 own1 H1 kb l1 s1 q => ?_
  cases kb with
  | true => exact iteT ((show W X F sa P own1 ρ from q) ls1 σ H1 s1 (sr.up l1.pre l1.same) De (k.up l1))
  | false => exact iteF ((show W X F sb P own1 ρ from q) ls1 σ H1 s1 (sr.up l1.pre l1.same) De (k.up l1))
/-- x = e -/
theorem W1.set (i : Nat) {x : Str} {pos' : Pos} (h : E X F e (fun o r => P.nx o (ρ.set i (some r))) own ρ) (hN : X.N.Nodup) (hi : X.N[i]? = some x := by rfl) (hx : Loc X.env.scope x := by first | exact Or.inl rfl | exact Or.inr rfl) (hs : swapsWith e (some (.Name x pos')) pos.line X.env = pure false := by rfl) (hf : X.fn x = true ∨ X.env.scope.names.lookup x = some .local := by first | exact .inl rfl | exact .inr rfl | assumption) :
    W1 X F (.Assign [.Name x pos'] e pos) P own ρ := by
  constructor
  intro ls σ H s0 sr De k
  refine (ps_set hN hi hx pe_we hs hf).to ?_
  exact h ls σ H s0 sr _ fun _ _ _ r v l s rr q => k.nx _ _ _ _ _ l s (SRep.set rr i (sr.up l.pre l.same)) q
end
end DL

namespace DL
open PySem PySem.Spec PyProof.Rows L2
section
variable {X : Cx} {F : Fm} {own : List Cell} {ρ : Ro} {Q : QE} {QA : QA} {QT : QT} {i j : Int}

/-! ### ints -/
theorem rr_int {K ls G v} (h : RRep K ls G (.d (.int i)) v) : v = .int i := by simpa only [RRep, Rep] using h
theorem rr_str {K ls G v} {s : Str} (h : RRep K ls G (.d (.str s)) v) : v = .str s := by simpa only [RRep, Rep] using h
theorem rr_bl {K ls G v} {b : Bool} (h : RRep K ls G (.d (.bl b)) v) : v = .bl b := by simpa only [RRep, Rep] using h
theorem rr_non {K ls G v} (h : RRep K ls G (.d .non) v) : v = .non := by simpa only [RRep, Rep] using h
theorem rr_ty {K ls G v} {n : String} (h : RRep K ls G (.d (.ty n)) v) : v = .ty n := by simpa only [RRep, Rep] using h
theorem rr_ref {K ls G v} {n : Addr} (h : RRep K ls G (.d (.ref n)) v) : v = .ref n := by simpa only [RRep, Rep] using h
theorem ir_int {K ls G} : RRep K ls G (.d (.int i)) (.int i) := by simp only [RRep, Rep]
theorem ir_bl {K ls G} {b : Bool} : RRep K ls G (.d (.bl b)) (.bl b) := by simp only [RRep, Rep]
theorem ir_str {K ls G} {s : Str} : RRep K ls G (.d (.str s)) (.str s) := by simp only [RRep, Rep]
theorem ir_non {K ls G} : RRep K ls G (.d .non) .non := by simp only [RRep, Rep]
theorem O2.ofI {f : Opk} {C : Int → Int → Prop} {g : Int → Int → Int} (p : OpR X f.f (rI C fun i j => .int (g i j))) (hc : C i j) (h : Q own (.d (.int (g i j)))) : O2 X F f (.d (.int i)) (.d (.int j)) Q own := by
  constructor
  intro ls H u v st rx ry Qv k
  cases rr_int rx
  cases rr_int ry
  exact p.to ⟨i, j, rfl, rfl, hc, k _ _ _ _ _ Le.refl st ir_int h⟩
theorem O2.ofI0 {f : Opk} {g : Int → Int → Int} (p : OpR X f.f (rI0 fun i j => .int (g i j))) (h : Q own (.d (.int (g i j)))) : O2 X F f (.d (.int i)) (.d (.int j)) Q own := by
  constructor
  intro ls H u v st rx ry Qv k
  cases rr_int rx
  cases rr_int ry
  exact p.to ⟨i, j, rfl, rfl, k _ _ _ _ _ Le.refl st ir_int h⟩
theorem O2.ofB {f : Opk} {g : Int → Int → Bool} (p : OpR X f.f (rI0 fun i j => .bl (g i j))) (h : Q own (.d (.bl (g i j)))) : O2 X F f (.d (.int i)) (.d (.int j)) Q own := by
  constructor
  intro ls H u v st rx ry Qv k
  cases rr_int rx
  cases rr_int ry
  exact p.to ⟨i, j, rfl, rfl, k _ _ _ _ _ Le.refl st ir_bl h⟩
theorem O2.add (h : Q own (.d (.int (i + j)))) : O2 X F (.bin .Add) (.d (.int i)) (.d (.int j)) Q own := .ofI0 op_add h
theorem O2.sub (h : Q own (.d (.int (i - j)))) : O2 X F (.bin .Sub) (.d (.int i)) (.d (.int j)) Q own := .ofI0 op_sub h
theorem O2.mul (hc : CMulX i j) (h : Q own (.d (.int (i * j)))) : O2 X F (.bin .Mult) (.d (.int i)) (.d (.int j)) Q own := .ofI op_mulX hc h
/-- one factor is small -/
theorem O2.mulS (hc : CMul i j) (h : Q own (.d (.int (i * j)))) : O2 X F (.bin .Mult) (.d (.int i)) (.d (.int j)) Q own := .ofI op_mul hc h
theorem O2.mod (hc : 0 < j) (h : Q own (.d (.int (i % j)))) : O2 X F (.bin .Mod) (.d (.int i)) (.d (.int j)) Q own := .ofI (C := fun _ j => 0 < j) op_mod hc h
theorem O2.modN (hc : j ≠ 0) (h : Q own (.d (.int (i.fmod j)))) : O2 X F (.bin .Mod) (.d (.int i)) (.d (.int j)) Q own := .ofI (C := fun _ j => j ≠ 0) op_modN hc h
theorem O2.fdiv (hc : CDiv i j) (h : Q own (.d (.int (i / j)))) : O2 X F (.bin .FloorDiv) (.d (.int i)) (.d (.int j)) Q own := .ofI op_fdiv hc h
theorem O2.fdivW (hc : CDivW i j) (h : Q own (.d (.int (i / j)))) : O2 X F (.bin .FloorDiv) (.d (.int i)) (.d (.int j)) Q own := .ofI op_fdivW hc h
def CDivA (_ j : Int) : Prop := j ≠ 0 ∧ j.natAbs < 2 ^ 9000
theorem op_fdivA : OpR X (binaryOp .FloorDiv) (rI CDivA fun i j => .int (i.fdiv j)) := opI fun i j _ _ _ _ _ hc q => floordiv_int hc.1 q (.inl (PyProof.noPylong_of_log2 (by
  have h0 : j.natAbs ≠ 0 := by have := hc.1; omega
  exact (Nat.log2_lt h0).mpr hc.2)))
theorem O2.fdivA (hc : CDivA i j) (h : Q own (.d (.int (i.fdiv j)))) : O2 X F (.bin .FloorDiv) (.d (.int i)) (.d (.int j)) Q own := .ofI op_fdivA hc h
theorem O2.pow (hc : CPow i j) (h : Q own (.d (.int (i ^ j.toNat)))) : O2 X F (.bin .Pow) (.d (.int i)) (.d (.int j)) Q own := .ofI op_pow hc h
theorem O2.lt (h : Q own (.d (.bl (decide (i < j))))) : O2 X F (.cmp .Lt) (.d (.int i)) (.d (.int j)) Q own := .ofB op_lt h
theorem O2.le (h : Q own (.d (.bl (decide (i ≤ j))))) : O2 X F (.cmp .LtE) (.d (.int i)) (.d (.int j)) Q own := .ofB op_le h
theorem O2.gt (h : Q own (.d (.bl (decide (j < i))))) : O2 X F (.cmp .Gt) (.d (.int i)) (.d (.int j)) Q own := .ofB op_gt h
theorem O2.ge (h : Q own (.d (.bl (decide (j ≤ i))))) : O2 X F (.cmp .GtE) (.d (.int i)) (.d (.int j)) Q own := .ofB op_ge h
theorem dV_int : decide (V.int i = V.int j) = decide (i = j) := by
  by_cases e : i = j
  · subst e; simp
  · rw [decide_eq_false e, decide_eq_false]; exact fun z => e (by injection z)
theorem dV_bl {a b : Bool} : decide (V.bl a = V.bl b) = (a == b) := by cases a <;> cases b <;> rfl
theorem dV_str {a b : Str} : decide (V.str a = V.str b) = decide (a = b) := by
  by_cases e : a = b
  · subst e; simp
  · rw [decide_eq_false e, decide_eq_false]; exact fun z => e (by injection z)
theorem O2.eq (h : Q own (.d (.bl (decide (i = j))))) : O2 X F (.cmp .Eq) (.d (.int i)) (.d (.int j)) Q own := by
  constructor
  intro ls H u v st rx ry Qv k
  cases rr_int rx
  cases rr_int ry
  exact op_eq.to ⟨rfl, k _ _ _ (.d (.bl _)) _ Le.refl st ir_bl (by rw [dV_int]; exact h)⟩
theorem O2.ne (h : Q own (.d (.bl (!decide (i = j))))) : O2 X F (.cmp .NotEq) (.d (.int i)) (.d (.int j)) Q own := by
  constructor
  intro ls H u v st rx ry Qv k
  cases rr_int rx
  cases rr_int ry
  exact op_ne.to ⟨rfl, k _ _ _ (.d (.bl _)) _ Le.refl st ir_bl (by rw [dV_int]; exact h)⟩
theorem O2.eqB {a b : Bool} (h : Q own (.d (.bl (a == b)))) : O2 X F (.cmp .Eq) (.d (.bl a)) (.d (.bl b)) Q own := by
  constructor
  intro ls H u v st rx ry Qv k
  cases rr_bl rx
  cases rr_bl ry
  exact op_eq.to ⟨rfl, k _ _ _ (.d (.bl _)) _ Le.refl st ir_bl (by rw [dV_bl]; exact h)⟩
theorem O2.neB {a b : Bool} (h : Q own (.d (.bl (!(a == b))))) : O2 X F (.cmp .NotEq) (.d (.bl a)) (.d (.bl b)) Q own := by
  constructor
  intro ls H u v st rx ry Qv k
  cases rr_bl rx
  cases rr_bl ry
  exact op_ne.to ⟨rfl, k _ _ _ (.d (.bl _)) _ Le.refl st ir_bl (by rw [dV_bl]; exact h)⟩
theorem O2.eqS {a b : Str} (h : Q own (.d (.bl (decide (a = b))))) : O2 X F (.cmp .Eq) (.d (.str a)) (.d (.str b)) Q own := by
  constructor
  intro ls H u v st rx ry Qv k
  cases rr_str rx
  cases rr_str ry
  exact op_eq.to ⟨rfl, k _ _ _ (.d (.bl _)) _ Le.refl st ir_bl (by rw [dV_str]; exact h)⟩
theorem O2.neS {a b : Str} (h : Q own (.d (.bl (!decide (a = b))))) : O2 X F (.cmp .NotEq) (.d (.str a)) (.d (.str b)) Q own := by
  constructor
  intro ls H u v st rx ry Qv k
  cases rr_str rx
  cases rr_str ry
  exact op_ne.to ⟨rfl, k _ _ _ (.d (.bl _)) _ Le.refl st ir_bl (by rw [dV_str]; exact h)⟩
theorem O1.neg (h : Q own (.d (.int (-i)))) : O1 X F .USub (.d (.int i)) Q own := by
  constructor
  intro ls H u st rx Qv k
  cases rr_int rx
  exact un_neg.to ⟨i, rfl, k _ _ _ _ _ Le.refl st ir_int h⟩
/-! ### calls of built-ins -/
theorem rrs1 {K ls G} {a : R} {vs : List V} (h : RReps K ls G [a] vs) : ∃ v, vs = [v] ∧ RRep K ls G a v := by
  cases h with
  | cons h t => cases t; exact ⟨_, rfl, h⟩
theorem rrs2 {K ls G} {a b : R} {vs : List V} (h : RReps K ls G [a, b] vs) : ∃ v w, vs = [v, w] ∧ RRep K ls G a v ∧ RRep K ls G b w := by
  cases h with
  | cons h t =>
    obtain ⟨w, rfl, hw⟩ := rrs1 t
    exact ⟨_, _, rfl, h, hw⟩
theorem rrs3 {K ls G} {a b c : R} {vs : List V} (h : RReps K ls G [a, b, c] vs) : ∃ v w z, vs = [v, w, z] ∧ RRep K ls G a v ∧ RRep K ls G b w ∧ RRep K ls G c z := by
  cases h with
  | cons h t =>
    obtain ⟨w, z, rfl, hw, hz⟩ := rrs2 t
    exact ⟨_, _, _, rfl, h, hw, hz⟩
theorem Cl.abs (h : Q own (.d (.int (i.natAbs : Int)))) : Cl X F (.builtin "abs") [.d (.int i)] Q own := by
  constructor
  intro ls H vs st rr Qv k
  obtain ⟨v, rfl, rv⟩ := rrs1 rr
  cases rr_int rv
  refine call_abs.to ⟨i, rfl, k _ _ _ (.d (.int _)) _ Le.refl st ir_int ?_⟩
  have e : (if i < 0 then -i else i) = (i.natAbs : Int) := by split <;> omega
  rw [e]; exact h
theorem Cl.int (h : Q own (.d (.int i))) : Cl X F (.type "int") [.d (.int i)] Q own := by
  constructor
  intro ls H vs st rr Qv k
  obtain ⟨v, rfl, rv⟩ := rrs1 rr
  cases rr_int rv
  exact call_int1.to (.inl ⟨i, rfl, k _ _ _ (.d (.int i)) _ Le.refl st ir_int h⟩)
theorem Cl.boolI (h : Q own (.d (.bl (decide (i ≠ 0))))) : Cl X F (.type "bool") [.d (.int i)] Q own := by
  constructor
  intro ls H vs st rr Qv k
  obtain ⟨v, rfl, rv⟩ := rrs1 rr
  cases rr_int rv
  refine call_bool1.to (.inl ⟨i, rfl, k _ _ _ (.d (.bl _)) _ Le.refl st ir_bl ?_⟩)
  have e : (i != 0) = decide (i ≠ 0) := by by_cases z : i = 0 <;> simp [z]
  rw [e]; exact h
theorem Cl.max (hc : X.calm = true) (h : Q own (.d (.int (if i < j then j else i)))) : Cl X F (.builtin "max") [.d (.int i), .d (.int j)] Q own := by
  constructor
  intro ls H vs st rr Qv k
  obtain ⟨v, w, rfl, rv, rw'⟩ := rrs2 rr
  cases rr_int rv
  cases rr_int rw'
  exact (call_max2 hc).to ⟨i, j, rfl, k _ _ _ (.d (.int _)) _ Le.refl st ir_int h⟩
theorem Cl.min (hc : X.calm = true) (h : Q own (.d (.int (if j < i then j else i)))) : Cl X F (.builtin "min") [.d (.int i), .d (.int j)] Q own := by
  constructor
  intro ls H vs st rr Qv k
  obtain ⟨v, w, rfl, rv, rw'⟩ := rrs2 rr
  cases rr_int rv
  cases rr_int rw'
  exact (call_min2 hc).to ⟨i, j, rfl, k _ _ _ (.d (.int _)) _ Le.refl st ir_int h⟩
theorem Cl.gcd (h : Q own (.d (.int ((Nat.gcd i.natAbs j.natAbs : Nat) : Int)))) : Cl X F (.builtin "math.gcd") [.d (.int i), .d (.int j)] Q own := by
  constructor
  intro ls H vs st rr Qv k
  obtain ⟨v, w, rfl, rv, rw'⟩ := rrs2 rr
  cases rr_int rv
  cases rr_int rw'
  exact cr_gcd.to ⟨i, j, rfl, k _ _ _ (.d (.int _)) _ Le.refl st ir_int h⟩
theorem lst_rr {K ls G v} {ds : List D} (h : RRep K ls G (.d (.lst ds)) v) : ∃ p xs, v = .ref p ∧ G p = some (.lst xs) ∧ Reps K G ds xs := by simpa only [RRep, Rep] using h
theorem tup_rr {K ls G v} {ds : List D} (h : RRep K ls G (.d (.tup ds)) v) : ∃ p xs, v = .ref p ∧ SqT K G p xs ∧ Reps K G ds xs := by simpa only [RRep, Rep] using h
theorem ins_rr {K ls G v} {C : Addr} {ns : List Str} {ds : List D} (h : RRep K ls G (.d (.ins C ns ds)) v) : ∃ p dx xs, v = .ref p ∧ G p = some (.ins C dx (ns.zip xs)) ∧ ns.length = ds.length ∧ Reps K G ds xs := by simpa only [RRep, Rep] using h
theorem sq_h {K : PySem.W.Frag} {S : List Addr} {H : Hp} {p : Addr} {xs : List V} (h : msk S H p = some (.lst xs)) : SqL K H p xs := .inl (.inl (msk_same _ _ _ _ h))
theorem Cl.lenL {ds : List D} (h : Q own (.d (.int ds.length))) : Cl X F (.builtin "len") [.d (.lst ds)] Q own := by
  constructor
  intro ls H vs st rr Qv k
  obtain ⟨v, rfl, rv⟩ := rrs1 rr
  obtain ⟨p, xs, rfl, hs, hr⟩ := lst_rr rv
  refine call_len_seq.to ⟨p, xs, rfl, .inl (sq_h hs), k _ _ _ (.d (.int _)) _ Le.refl st ir_int ?_⟩
  rw [← hr.length]; exact h
theorem Cl.lenT {ds : List D} (h : Q own (.d (.int ds.length))) : Cl X F (.builtin "len") [.d (.tup ds)] Q own := by
  constructor
  intro ls H vs st rr Qv k
  obtain ⟨v, rfl, rv⟩ := rrs1 rr
  obtain ⟨p, xs, rfl, hs, hr⟩ := tup_rr rv
  refine call_len_seq.to ⟨p, xs, rfl, .inr (Same.seqT (msk_same _ _) hs), k _ _ _ (.d (.int _)) _ Le.refl st ir_int ?_⟩
  rw [← hr.length]; exact h
/-- len of a cell that is a list -/
theorem Cl.lenC {n : Nat} {rs : List R} (hc : own[n]? = some (.lst rs)) (h : Q own (.d (.int rs.length))) : Cl X F (.builtin "len") [.c n] Q own := by
  constructor
  intro ls H vs st rr Qv k
  obtain ⟨v, rfl, rv⟩ := rrs1 rr
  obtain ⟨l, hl, rfl⟩ := rv
  obtain ⟨xs, e, q⟩ := st.at_ n l _ hl hc
  refine call_len_seq.to ⟨l, xs, rfl, .inl (.inl (.inl e)), k _ _ _ (.d (.int _)) _ Le.refl st ir_int ?_⟩
  rw [← q.length']; exact h
/-- list(x): a copy -/
theorem Cl.listL {ds : List D} (h : Q own (.d (.lst ds))) : Cl X F (.type "list") [.d (.lst ds)] Q own := by
  constructor
  intro ls H vs st rr Qv k
  obtain ⟨v, rfl, rv⟩ := rrs1 rr
  obtain ⟨p, xs, rfl, hs, hr⟩ := lst_rr rv
  refine call_list_of.to ⟨p, xs, rfl, .inl (sq_h hs), fun l hl => ?_⟩
  refine k _ _ _ (.d (.lst ds)) _ (Le.grow (same_new hl)) (st.grow (same_new hl)) ?_ h
  simp only [RRep, Rep]
  exact ⟨l, xs, rfl, st.seen hl, Reps.mono (msk_mono (same_new hl)) hr⟩
theorem Cl.listT {ds : List D} (h : Q own (.d (.lst ds))) : Cl X F (.type "list") [.d (.tup ds)] Q own := by
  constructor
  intro ls H vs st rr Qv k
  obtain ⟨v, rfl, rv⟩ := rrs1 rr
  obtain ⟨p, xs, rfl, hs, hr⟩ := tup_rr rv
  refine call_list_of.to ⟨p, xs, rfl, .inr (Same.seqT (msk_same _ _) hs), fun l hl => ?_⟩
  refine k _ _ _ (.d (.lst ds)) _ (Le.grow (same_new hl)) (st.grow (same_new hl)) ?_ h
  simp only [RRep, Rep]
  exact ⟨l, xs, rfl, st.seen hl, Reps.mono (msk_mono (same_new hl)) hr⟩
theorem Cl.tupleL {ds : List D} (h : Q own (.d (.tup ds))) : Cl X F (.type "tuple") [.d (.lst ds)] Q own := by
  constructor
  intro ls H vs st rr Qv k
  obtain ⟨v, rfl, rv⟩ := rrs1 rr
  obtain ⟨p, xs, rfl, hs, hr⟩ := lst_rr rv
  refine call_tuple_of.to ⟨p, xs, rfl, .inl ⟨sq_h hs, fun l hl => ?_⟩⟩
  refine k _ _ _ (.d (.tup ds)) _ (Le.grow (same_new hl)) (st.grow (same_new hl)) ?_ h
  simp only [RRep, Rep]
  exact ⟨l, xs, rfl, .inl (.inl (st.seen hl)), Reps.mono (msk_mono (same_new hl)) hr⟩
theorem Cl.tupleT {ds : List D} (h : Q own (.d (.tup ds))) : Cl X F (.type "tuple") [.d (.tup ds)] Q own := by
  constructor
  intro ls H vs st rr Qv k
  obtain ⟨v, rfl, rv⟩ := rrs1 rr
  obtain ⟨p, xs, rfl, hs, hr⟩ := tup_rr rv
  exact call_tuple_of.to ⟨p, xs, rfl, .inr ⟨Same.seqT (msk_same _ _) hs, k _ _ _ (.d (.tup ds)) _ Le.refl st rv h⟩⟩

/-! ### lists and tuples -/
/-- a[i] -/
structure Ix (X : Cx) (F : Fm) (x y : R) (Q : QE) (own : List Cell)  : Prop where
  mk :: (run : ∀ ls H u v, St0 X.K F ls own H → RRep X.K ls (F.g ls own H) x u → RRep X.K ls (F.g ls own H) y v → ∀ Qv : VK, KV' X F ls own H Q Qv → rIx X.K u v H Qv)
instance {X : Cx} {F : Fm} {x y : R} {Q : QE} {own : List Cell}  : CoeFun (Ix X F x y Q own) (fun _ => ∀ ls H u v, St0 X.K F ls own H → RRep X.K ls (F.g ls own H) x u → RRep X.K ls (F.g ls own H) y v → ∀ Qv : VK, KV' X F ls own H Q Qv → rIx X.K u v H Qv) := ⟨Ix.run⟩
theorem E.ix {a b : Expr} {pos : Pos} (h : E X F a (fun o x => E X F b (fun o2 y => Ix X F x y Q o2) o ρ) own ρ) (hs : PlainIx b := by exact fun _ _ => rfl) : E X F (.Subscript a b pos) Q own ρ := by
  constructor
  intro ls σ H st sr Qv k
  refine (pe_ix ix_seq pe_we pe_we hs).to ?_
  refine h ls σ H st sr _ fun ls1 own1 H1 x u l1 s1 rx hb => ?_
  refine hb ls1 σ H1 s1 (sr.up l1.pre l1.same) _ fun ls2 own2 H2 y v l2 s2 ry ho => ?_
  exact ho ls2 H2 u v s2 (rx.up l2.pre l2.same) ry Qv fun _ _ _ _ _ l3 => k _ _ _ _ _ ((l1.trans l2).trans l3)
theorem atI_rep {K : PySem.W.Frag} {G : Hp} {ds : List D} {xs : List V} {d : D} (hr : Reps K G ds xs) (h : atI ds i = some d) : ∃ x, atI xs i = some x ∧ Rep K G d x := by
  unfold atI at h ⊢
  rw [hr.length] at h
  cases e : ixN xs.length i with
  | none => rw [e] at h; cases h
  | some n => rw [e] at h; exact hr.get h
theorem atI_rrep {K : PySem.W.Frag} {ls : List Addr} {G : Hp} {ds : List R} {xs : List V} {d : R} (hr : RReps K ls G ds xs) (h : atI ds i = some d) : ∃ x, atI xs i = some x ∧ RRep K ls G d x := by
  unfold atI at h ⊢
  rw [hr.length'] at h
  cases e : ixN xs.length i with
  | none => rw [e] at h; cases h
  | some n => rw [e] at h; exact hr.get' h
theorem Ix.lst {ds : List D} {d : D} (hi : atI ds i = some d) (h : Q own (.d d)) : Ix X F (.d (.lst ds)) (.d (.int i)) Q own := by
  constructor
  intro ls H u v st rx ry Qv k
  cases rr_int ry
  obtain ⟨p, xs, rfl, hs, hr⟩ := lst_rr rx
  obtain ⟨x, e1, e2⟩ := atI_rep hr hi
  exact .inl ⟨p, xs, i, x, rfl, rfl, sq_h hs, e1, k _ _ _ (.d d) _ Le.refl st e2 h⟩
theorem Ix.tup {ds : List D} {d : D} (hi : atI ds i = some d) (h : Q own (.d d)) : Ix X F (.d (.tup ds)) (.d (.int i)) Q own := by
  constructor
  intro ls H u v st rx ry Qv k
  cases rr_int ry
  obtain ⟨p, xs, rfl, hs, hr⟩ := tup_rr rx
  obtain ⟨x, e1, e2⟩ := atI_rep hr hi
  exact .inr (.inl ⟨p, xs, i, x, rfl, rfl, Same.seqT (msk_same _ _) hs, e1, k _ _ _ (.d d) _ Le.refl st e2 h⟩)
theorem Ix.cell {n : Nat} {rs : List R} {d : R} (hc : own[n]? = some (.lst rs)) (hi : atI rs i = some d) (h : Q own d) : Ix X F (.c n) (.d (.int i)) Q own := by
  constructor
  intro ls H u v st rx ry Qv k
  cases rr_int ry
  obtain ⟨l, hl, rfl⟩ := rx
  obtain ⟨xs, e, q⟩ := st.at_ n l _ hl hc
  obtain ⟨x, e1, e2⟩ := atI_rrep q hi
  exact .inl ⟨l, xs, i, x, rfl, rfl, .inl (.inl e), e1, k _ _ _ d _ Le.refl st e2 h⟩
theorem Ix.str {s : Str} {c : Nat} (hz : s.length ≤ sizeLine) (hi : atI s.cps.toList i = some c) (h : Q own (.d (.str ⟨#[c]⟩))) : Ix X F (.d (.str s)) (.d (.int i)) Q own := by
  constructor
  intro ls H u v st rx ry Qv k
  cases rr_int ry
  cases rr_str rx
  exact .inr (.inr ⟨s, i, c, rfl, rfl, hz, hi, k _ _ _ (.d (.str _)) _ Le.refl st ir_str h⟩)
/-- the truth of lists, ints -/
theorem Tr.int (h : QT own (decide (i ≠ 0))) : Tr X F (.d (.int i)) QT own := by
  constructor
  intro ls H u st rx Qb k
  cases rr_int rx
  refine tru_ok.to ⟨_, rfl, k _ _ _ _ Le.refl st ?_⟩
  have e : (i != 0) = decide (i ≠ 0) := by by_cases z : i = 0 <;> simp [z]
  rw [e]; exact h
theorem Tr.lst {ds : List D} (h : QT own (!ds.isEmpty)) : Tr X F (.d (.lst ds)) QT own := by
  constructor
  intro ls H u st rx Qb k
  obtain ⟨p, xs, rfl, hs, hr⟩ := lst_rr rx
  refine tru_ok.to ⟨_, .inl ⟨xs, sq_h hs, rfl⟩, k _ _ _ _ Le.refl st ?_⟩
  have e : xs.isEmpty = ds.isEmpty := by
    have := hr.length
    cases xs <;> cases ds <;> simp at this ⊢
  rw [e]; exact h
/-! ### slices -/
def wpo (X : Cx) (e : Option Expr) : TO := fun σ H Q => ∀ pins s, Inv X pins σ H s → wpAny (model X.prog X.w) X.A (evalPart e X.env) (fun u s' => ∃ o H', Inv X pins σ H' s' ∧ IsPart u o ∧ Q o H') X.xe s
theorem po_w {e : Option Expr} : PO X e (wpo X e) := ⟨fun pins s σ H Q I h => h pins s I⟩
theorem _root_.L2.PO.to {e : Option Expr} {t : TO} {σ : L2.St} {H : Hp} {Q : Option Int → Hp → Prop} (p : PO X e t) (h : t σ H Q) : wpo X e σ H Q := fun pins s I => p.run pins s σ H Q I h
structure PoE (X : Cx) (F : Fm) (e : Option Expr) (Q : List Cell → Option Int → Prop) (own : List Cell) (ρ : Ro)  : Prop where
  mk :: (run : ∀ ls σ H, St0 X.K F ls own H → SRep X.K ls (F.g ls own H) ρ σ → ∀ Qo : Option Int → Hp → Prop,
    (∀ ls' own' H' b, Le F ls own H ls' own' H' → St0 X.K F ls' own' H' → Q own' b → Qo b H') → wpo X e σ H Qo)
instance {X : Cx} {F : Fm} {e : Option Expr} {Q : List Cell → Option Int → Prop} {own : List Cell} {ρ : Ro}  : CoeFun (PoE X F e Q own ρ) (fun _ => ∀ ls σ H, St0 X.K F ls own H → SRep X.K ls (F.g ls own H) ρ σ → ∀ Qo : Option Int → Hp → Prop,
    (∀ ls' own' H' b, Le F ls own H ls' own' H' → St0 X.K F ls' own' H' → Q own' b → Qo b H') → wpo X e σ H Qo) := ⟨PoE.run⟩
theorem PoE.none {Q : List Cell → Option Int → Prop} (h : Q own none) : PoE X F none Q own ρ := .mk fun ls σ H st sr Qo k => po_none.to (k _ _ _ _ Le.refl st h)
theorem PoE.some {e : Expr} {Q : List Cell → Option Int → Prop} (h : E X F e (fun o r => ∃ i, r = .d (.int i) ∧ Q o (some i)) own ρ) : PoE X F (some e) Q own ρ := by
  constructor
  intro ls σ H st sr Qo k
  refine (po_some pe_we).to ?_
  refine h ls σ H st sr _ fun ls1 own1 H1 x u l1 s1 rx ⟨i, ex, q⟩ => ?_
  subst ex
  cases rr_int rx
  exact ⟨i, rfl, k _ _ _ _ l1 s1 q⟩
def cutD (xs : List D) (lo hi : Option Int) : List D := (xs.drop (HT.sIx xs.length 0 lo)).take (HT.sIx xs.length xs.length hi - HT.sIx xs.length 0 lo)
theorem cut_rep {K : PySem.W.Frag} {G : Hp} {ds : List D} {xs : List V} {lo hi : Option Int} (hr : Reps K G ds xs) : Reps K G (cutD ds lo hi) (cutV xs lo hi) := by
  unfold cutD cutV
  rw [← hr.length]
  exact (hr.drop _).take _
def rSlA (K : PySem.W.Frag) : V → Option Int → Option Int → Hp → VK → Prop := fun x lo hi H Q => rSlL K x lo hi H Q ∨ (fun x lo hi H Q => (∃ z, x = .str z ∧ z.length ≤ sizeLine ∧ Q (.str (cutS z lo hi)) H) ∨ rSlT K x lo hi H Q) x lo hi H Q
theorem sl_any : SlR X (rSlA X.K) := sl_list.or (sl_str.or sl_tup)
structure Sl (X : Cx) (F : Fm) (x : R) (lo hi : Option Int) (Q : QE) (own : List Cell)  : Prop where
  mk :: (run : ∀ ls H u, St0 X.K F ls own H → RRep X.K ls (F.g ls own H) x u → ∀ Qv : VK, KV' X F ls own H Q Qv → rSlA X.K u lo hi H Qv)
instance {X : Cx} {F : Fm} {x : R} {lo hi : Option Int} {Q : QE} {own : List Cell}  : CoeFun (Sl X F x lo hi Q own) (fun _ => ∀ ls H u, St0 X.K F ls own H → RRep X.K ls (F.g ls own H) x u → ∀ Qv : VK, KV' X F ls own H Q Qv → rSlA X.K u lo hi H Qv) := ⟨Sl.run⟩
theorem E.slice {e : Expr} {lo hi : Option Expr} {p2 pos : Pos} (h : E X F e (fun o x => PoE X F lo (fun o1 l => PoE X F hi (fun o2 u => Sl X F x l u Q o2) o1 ρ) o ρ) own ρ) : E X F (.Subscript e (.Slice lo hi none p2) pos) Q own ρ := by
  constructor
  intro ls σ H st sr Qv k
  refine (pe_slice sl_any pe_we po_w po_w).to ?_
  refine h ls σ H st sr _ fun ls1 own1 H1 x u l1 s1 rx q => ?_
  refine q ls1 σ H1 s1 (sr.up l1.pre l1.same) _ fun ls2 own2 H2 lo' l2 s2 q2 => ?_
  refine q2 ls2 σ H2 s2 (sr.up (l1.trans l2).pre (l1.trans l2).same) _ fun ls3 own3 H3 hi' l3 s3 q3 => ?_
  exact q3 ls3 H3 u s3 (rx.up (l2.trans l3).pre (l2.trans l3).same) Qv fun _ _ _ _ _ l4 => k _ _ _ _ _ (((l1.trans l2).trans l3).trans l4)
/-- a list's slice is a new list -/
theorem Sl.lst {ds : List D} {lo hi : Option Int} (h : Q own (.d (.lst (cutD ds lo hi)))) : Sl X F (.d (.lst ds)) lo hi Q own := by
  constructor
  intro ls H u st rx Qv k
  obtain ⟨p, xs, rfl, hs, hr⟩ := lst_rr rx
  refine .inl ⟨p, xs, rfl, sq_h hs, fun l hl => ?_⟩
  refine k _ _ _ (.d (.lst _)) _ (Le.grow (same_new hl)) (st.grow (same_new hl)) ?_ h
  simp only [RRep, Rep]
  exact ⟨l, _, rfl, st.seen hl, Reps.mono (msk_mono (same_new hl)) (cut_rep hr)⟩
theorem Sl.str {s : Str} {lo hi : Option Int} (hz : s.length ≤ sizeLine) (h : Q own (.d (.str (cutS s lo hi)))) : Sl X F (.d (.str s)) lo hi Q own := by
  constructor
  intro ls H u st rx Qv k
  cases rr_str rx
  exact .inr (.inl ⟨s, rfl, hz, k _ _ _ (.d (.str _)) _ Le.refl st ir_str h⟩)
/-- a tuple's slice that is not the whole is a new tuple -/
theorem Sl.tup {ds : List D} {lo hi : Option Int} (hn : ¬ (HT.sIx ds.length 0 lo = 0 ∧ HT.sIx ds.length ds.length hi = ds.length)) (h : Q own (.d (.tup (cutD ds lo hi)))) : Sl X F (.d (.tup ds)) lo hi Q own := by
  constructor
  intro ls H u st rx Qv k
  obtain ⟨p, xs, rfl, hs, hr⟩ := tup_rr rx
  refine .inr (.inr ⟨p, xs, rfl, Same.seqT (msk_same _ _) hs, by rw [← hr.length]; exact hn, fun l hl => ?_⟩)
  refine k _ _ _ (.d (.tup _)) _ (Le.grow (same_new hl)) (st.grow (same_new hl)) ?_ h
  simp only [RRep, Rep]
  exact ⟨l, _, rfl, .inl (.inl (st.seen hl)), Reps.mono (msk_mono (same_new hl)) (cut_rep hr)⟩
/-- list + list: a new list -/
theorem O2.cat {as bs : List D} (hz : as.length + bs.length ≤ sizeLine) (h : Q own (.d (.lst (as ++ bs)))) : O2 X F (.bin .Add) (.d (.lst as)) (.d (.lst bs)) Q own := by
  constructor
  intro ls H u v st rx ry Qv k
  obtain ⟨p, xs, rfl, hs, hr⟩ := lst_rr rx
  obtain ⟨q, ys, rfl, hs', hr'⟩ := lst_rr ry
  refine op_cat.to ⟨p, q, xs, ys, rfl, rfl, msk_same _ _ _ _ hs, msk_same _ _ _ _ hs', by rw [← hr.length, ← hr'.length]; exact hz, fun l hl => ?_⟩
  refine k _ _ _ (.d (.lst _)) _ (Le.grow (same_new hl)) (st.grow (same_new hl)) ?_ h
  simp only [RRep, Rep]
  exact ⟨l, _, rfl, st.seen hl, Reps.mono (msk_mono (same_new hl)) (hr.append hr')⟩
theorem O2.catS {a b : Str} (hz : a.length + b.length ≤ sizeLine) (h : Q own (.d (.str (a ++ b)))) : O2 X F (.bin .Add) (.d (.str a)) (.d (.str b)) Q own := by
  constructor
  intro ls H u v st rx ry Qv k
  cases rr_str rx
  cases rr_str ry
  exact op_add_str.to ⟨a, b, rfl, rfl, hz, k _ _ _ (.d (.str _)) _ Le.refl st ir_str h⟩
end
end DL

namespace DL
open PySem PySem.Spec PyProof.Rows L2

/-! ### promises over data -/
/-- a def that changes nothing that stood: what it asks of its arguments, what it hands back -/
def spF (K : PySem.W.Frag) (pre : List D → Prop) (post : List D → D → Prop) : Sp := fun vs H Q _ => ∃ (S : List Addr) (ds : List D), (∀ b ∈ S, H b ≠ none) ∧ Reps K (msk S H) ds vs ∧ pre ds ∧
  ∀ v H' d, Same H H' → Rep K (msk S H') d v → post ds d → Q v H'
/-- a def that changes its first argument alone, a list of which I holds ahead and behind -/
def spP (K : PySem.W.Frag) (I : List D → Prop) (pre : List D → Prop) (post : List D → D → Prop) : Sp := fun vs H Q _ => ∃ (S : List Addr) (l : Addr) (ws xs : List V) (ps ds : List D), vs = .ref l :: ws ∧ l ∈ S ∧ (∀ b ∈ S, H b ≠ none) ∧
  H l = some (.lst xs) ∧ Reps K (msk S H) ps xs ∧ I ps ∧ Reps K (msk S H) ds ws ∧ pre ds ∧
  ∀ v H' d xs' ps', (∀ b o, b ≠ l → H b = some o → H' b = some o) → H' l = some (.lst xs') → Reps K (msk S H') ps' xs' → I ps' → Rep K (msk S H') d v → post ds d → Q v H'
/-- an __init__: it fills its new instance -/
def spI (K : PySem.W.Frag) (C : Addr) (ns : List Str) (pre : List D → Prop) (post : List D → List D → Prop) : Sp := fun vs H Q _ => ∃ (S : List Addr) (x dx : Addr) (ws : List V) (ds : List D), vs = .ref x :: ws ∧ x ∉ S ∧ (∀ b ∈ S, H b ≠ none) ∧
  H x = some (.ins C dx []) ∧ Reps K (msk (S ++ [x]) H) ds ws ∧ pre ds ∧
  ∀ H' dx' xs fs, (∀ b o, b ≠ x → H b = some o → H' b = some o) → H' x = some (.ins C dx' (ns.zip xs)) → ns.length = fs.length → Reps K (msk (S ++ [x]) H') fs xs → post ds fs → Q .non H'

theorem reps_append_inv {K : PySem.W.Frag} {G : Hp} {ds : List D} {vs : List V} (h : Reps K G ds vs) : ds.length = vs.length := h.length
theorem rreps_data {K : PySem.W.Frag} {ls : List Addr} {G : Hp} {ds : List D} {vs : List V} (h : Reps K G ds vs) : SRep K ls G (ds.map fun d => some (R.d d)) (vs.map some) := by
  induction ds generalizing vs with
  | nil => simp only [Reps] at h; subst h; exact .nil
  | cons d ds ih =>
    simp only [Reps] at h
    obtain ⟨x, r, rfl, h2, h3⟩ := h
    exact .cons h2 (ih h3)
theorem srep_nones {K : PySem.W.Frag} {ls : List Addr} {G : Hp} : ∀ n : Nat, SRep K ls G (List.replicate n none) (List.replicate n none)
  | 0 => .nil
  | n + 1 => .cons True.intro (srep_nones n)
theorem srep_append {K : PySem.W.Frag} {ls : List Addr} {G : Hp} : ∀ {ρ ρ' : Ro} {σ σ' : L2.St}, SRep K ls G ρ σ → SRep K ls G ρ' σ' → SRep K ls G (ρ ++ ρ') (σ ++ σ')
  | _, _, _, _, .nil, h => h
  | _, _, _, _, .cons a t, h => .cons a (srep_append t h)
theorem start_rep {K : PySem.W.Frag} {ls : List Addr} {G : Hp} {rs : List R} {vs : List V} (N : List Str) (h : RReps K ls G rs vs) : SRep K ls G (rs.map some ++ List.replicate (N.length - rs.length) none) (L2.start N vs) := by
  unfold L2.start
  rw [h.length']
  refine srep_append ?_ (srep_nones _)
  clear N
  induction h with
  | nil => exact .nil
  | cons a t ih => exact .cons a ih
/-- the names at a def's entry -/
abbrev ent (n : Nat) (rs : List R) : Ro := rs.map some ++ List.replicate (n - rs.length) none

section
variable {P : Program} {w : World} {K : PySem.W.Frag} {mg : Str → Option Value} {base : Heap}
/-- the body's context in a def that lets nothing out -/
abbrev cx0 (P : Program) (w : World) (K : PySem.W.Frag) (mg : Str → Option Value) (base : Heap) (N : List Str) (qual : Str) (sc : Scope) (f : Addr) (cdv : Value) (A : Around) (outer : List Env) (s : Shared) (H : Hp) (E : XK) : Cx := (cxOf CX0 P w K mg base N qual sc f cdv A outer s H E).nox

theorem ok_F {x qual : Str} {st : Stmt} {f : Addr} {fd : FuncData} {N ps : List Str} {k : Nat} (F : Fun K x qual st f fd) (S : FnScope N ps (defScope st)) {pre : List D → Prop} {post : List D → D → Prop} (hlen : ∀ ds, pre ds → ds.length = ps.length)
    (body : ∀ (cdv : Value) (A : Around) (outer : List Env) (s : Shared) (H : Hp) (E : XK) (Fr : Fm) (ds : List D), Room k (A.deeper (envOfC qual (defScope st) s.heap.objs.size f cdv)) → Fr.mu = [] → pre ds →
      W (cx0 P w K mg base N qual (defScope st) f cdv A outer s H E) Fr (defBody st) { nx := fun _ _ => post ds .non, rt := fun _ r => ∃ d, r = .d d ∧ post ds d } [] (ent N.length (ds.map R.d))) :
    FnOk P w K mg base CX0 (k + 1) f fd ps (spF K pre post) := by
  refine F.ok S (fun vs H Q E h => ?_) (fun cdv A outer s H vs Q E hr h => ?_)
  · obtain ⟨_, ds, _, h2, h3, _⟩ := h
    rw [← h2.length]; exact hlen ds h3
  · obtain ⟨S0, ds, h1, h2, h3, kk⟩ := h
    refine ⟨_, pss_ws, ?_⟩
    have st0 : St0 K (Fm.of H S0 []) [] [] H := ⟨rfl, List.nodup_nil, fun l hl => absurd hl (by simp), fun k l c hl => absurd hl (by simp), fun b o _ e => e, fun b h => h, h1, fun l hl => absurd hl (by simp), List.nil_prefix, fun _ _ e => by cases e⟩
    have eg : Fm.g (Fm.of H S0 []) [] [] H = msk S0 H := by show msk (S0 ++ live [] []) H = _; simp [live]
    have sr : SRep K [] (Fm.g (Fm.of H S0 []) [] [] H) (ent N.length (ds.map R.d)) (L2.start N vs) := start_rep N (by rw [eg]; exact RReps.ofD h2)
    have fin : ∀ {ls' : List Addr} {own' : List Cell} {H' : Hp} {d : D} {v : V}, St0 K (Fm.of H S0 []) ls' own' H' → Rep K (Fm.g (Fm.of H S0 []) ls' own' H') d v → post ds d → Q v H' := fun s' r q =>
      kk _ _ _ (fun b o e => s'.keep b o (by simp) e) (Rep.mono (msk_le fun b hb => List.mem_append_left _ hb) r) q
    refine body cdv A outer s H E (Fm.of H S0 []) ds hr rfl h3 [] (L2.start N vs) H st0 sr _ ⟨?_, ?_, ?_, ?_⟩
    · intro ls' own' H' ρ σ _ s' _ q
      exact fin (d := .non) s' (by simp only [Rep]) q
    · rintro ls' own' H' r v _ s' rv ⟨d, rfl, q⟩
      exact fin s' rv q
    · intro _ _ _ _ _ _ _ _ q; exact q
    · intro _ _ _ _ _ _ _ _ q; exact q

/-- the cell's content is as I says -/
def CellI (I : List D → Prop) (own : List Cell) : Prop := own[0]? = some (.any I) ∨ ∃ ps : List D, own[0]? = some (.lst (ps.map R.d)) ∧ I ps
theorem ok_P {x qual : Str} {st : Stmt} {f : Addr} {fd : FuncData} {N ps : List Str} {k : Nat} (F : Fun K x qual st f fd) (S : FnScope N ps (defScope st)) {I : List D → Prop} {pre : List D → Prop} {post : List D → D → Prop} (hlen : ∀ ds, pre ds → ds.length + 1 = ps.length)
    (body : ∀ (cdv : Value) (A : Around) (outer : List Env) (s : Shared) (H : Hp) (E : XK) (Fr : Fm) (ds : List D), Room k (A.deeper (envOfC qual (defScope st) s.heap.objs.size f cdv)) → pre ds →
      W (cx0 P w K mg base N qual (defScope st) f cdv A outer s H E) Fr (defBody st) { nx := fun own _ => CellI I own ∧ post ds .non, rt := fun own r => CellI I own ∧ ∃ d, r = .d d ∧ post ds d } [.any I] (ent N.length (.c 0 :: ds.map R.d))) :
    FnOk P w K mg base CX0 (k + 1) f fd ps (spP K I pre post) := by
  refine F.ok S (fun vs H Q E h => ?_) (fun cdv A outer s H vs Q E hr h => ?_)
  · obtain ⟨_, l, ws, xs, qs, ds, rfl, _, _, _, _, _, h7, h8, _⟩ := h
    rw [List.length_cons, ← h7.length]; exact hlen ds h8
  · obtain ⟨S0, l, ws, xs, qs, ds, rfl, hl, h1, h4, h5, h6, h7, h8, kk⟩ := h
    refine ⟨_, pss_ws, ?_⟩
    have nl : l ∉ S0.filter (· ≠ l) := by simp
    have em : ∀ H1 : Hp, msk (S0.filter (· ≠ l) ++ [l]) H1 = msk S0 H1 := fun H1 => msk_congr fun b => by
      simp only [List.mem_append, List.mem_filter, List.mem_singleton, decide_eq_true_eq, ne_eq]
      constructor
      · rintro (⟨h, _⟩ | rfl)
        · exact h
        · exact hl
      · intro h
        by_cases e : b = l
        · exact .inr e
        · exact .inl ⟨h, by simpa using e⟩
    have eg : ∀ H1, Fm.g (Fm.of H (S0.filter (· ≠ l)) [l]) [l] [.any I] H1 = msk S0 H1 := fun H1 => em H1
    have st0 : St0 K (Fm.of H (S0.filter (· ≠ l)) [l]) [l] [.any I] H := by
      refine ⟨rfl, by simp, fun b hb => ?_, fun j b c e1 e2 => ?_, fun b o _ e => e, fun b h => h, fun b hb => h1 b (List.mem_filter.mp hb).1, fun b hb => by rw [List.mem_singleton.mp hb, h4]; exact fun z => (by cases z), List.nil_prefix, fun _ _ e => by cases e⟩
      · rw [List.mem_singleton.mp hb]; exact ⟨nl, .inr (by simp)⟩
      · cases j with
        | zero =>
          simp at e1 e2
          subst e1; subst e2
          rw [eg]
          exact ⟨xs, qs, h4, h5, h6⟩
        | succ j => simp at e1
    have sr : SRep K [l] (Fm.g (Fm.of H (S0.filter (· ≠ l)) [l]) [l] [.any I] H) (ent N.length (.c 0 :: ds.map R.d)) (L2.start N (.ref l :: ws)) := start_rep N (.cons ⟨l, rfl, rfl⟩ (by rw [eg]; exact RReps.ofD h7))
    have fin : ∀ {ls' : List Addr} {own' : List Cell} {H' : Hp} {d : D} {v : V}, Le (Fm.of H (S0.filter (· ≠ l)) [l]) [l] [.any I] H ls' own' H' → St0 K (Fm.of H (S0.filter (· ≠ l)) [l]) ls' own' H' → CellI I own' → Rep K (Fm.g (Fm.of H (S0.filter (· ≠ l)) [l]) ls' own' H') d v → post ds d → Q v H' := by
      intro ls' own' H' d v le s' ci r q
      have e0 : ls'[0]? = some l := pre_get le.pre rfl
      have sub : ∀ c, own'[0]? = some c → c ≠ .gone → Same (Fm.g (Fm.of H (S0.filter (· ≠ l)) [l]) ls' own' H') (msk S0 H') := fun c ec nc => by
        rw [← em]
        refine msk_le fun b hb => ?_
        rcases List.mem_append.mp hb with h | h
        · exact List.mem_append_left _ h
        · rw [List.mem_singleton.mp h]; exact List.mem_append_right _ (live_get e0 ec nc)
      have keep : ∀ b o, b ≠ l → H b = some o → H' b = some o := fun b o hb e => s'.keep b o (by simpa using hb) e
      rcases ci with ec | ⟨qs', ec, hi⟩
      · obtain ⟨xs', ps', g1, g2, g3⟩ := s'.at_ 0 l _ e0 ec
        exact kk _ _ _ _ _ keep g1 (Reps.mono (sub _ ec (fun z => by cases z)) g2) g3 (Rep.mono (sub _ ec (fun z => by cases z)) r) q
      · obtain ⟨xs', g1, g2⟩ := s'.at_ 0 l _ e0 ec
        exact kk _ _ _ _ _ keep g1 (Reps.mono (sub _ ec (fun z => by cases z)) (RReps.toD g2)) hi (Rep.mono (sub _ ec (fun z => by cases z)) r) q
    refine body cdv A outer s H E (Fm.of H (S0.filter (· ≠ l)) [l]) ds hr h8 [l] (L2.start N (.ref l :: ws)) H st0 sr _ ⟨?_, ?_, ?_, ?_⟩
    · rintro ls' own' H' ρ σ le s' _ ⟨ci, q⟩
      exact fin (d := .non) le s' ci (by simp only [Rep]) q
    · rintro ls' own' H' r v le s' rv ⟨ci, d, rfl, q⟩
      exact fin le s' ci rv q
    · intro _ _ _ _ _ _ _ _ q; exact q
    · intro _ _ _ _ _ _ _ _ q; exact q

theorem ok_I {x qual : Str} {st : Stmt} {f C : Addr} {fd : FuncData} {N ps ns : List Str} {k : Nat} (F : Fun K x qual st f fd ∨ ∃ dvs kws, FunD K x qual (defArgs st) (defBody st) (defScope st) dvs kws f fd) (S : FnScope N ps (defScope st)) {pre : List D → Prop} {post : List D → List D → Prop} (hlen : ∀ ds, pre ds → ds.length + 1 = ps.length)
    (body : ∀ (cdv : Value) (A : Around) (outer : List Env) (s : Shared) (H : Hp) (E : XK) (Fr : Fm) (ds : List D), Room k (A.deeper (envOfC qual (defScope st) s.heap.objs.size f cdv)) → pre ds →
      W (cx0 P w K mg base N qual (defScope st) f cdv A outer s H E) Fr (defBody st) { nx := fun own _ => ∃ fs : List D, own[0]? = some (.ins C ns (fs.map R.d)) ∧ post ds fs, rt := fun own r => r = .d .non ∧ ∃ fs : List D, own[0]? = some (.ins C ns (fs.map R.d)) ∧ post ds fs } [.ins C [] []] (ent N.length (.c 0 :: ds.map R.d))) :
    FnOk P w K mg base CX0 (k + 1) f fd ps (spI K C ns pre post) := by
  have len : ∀ vs H Q E, spI K C ns pre post vs H Q E → vs.length = ps.length := fun vs H Q E h => by
    obtain ⟨_, l, dx, ws, ds, rfl, _, _, _, h7, h8, _⟩ := h
    rw [List.length_cons, ← h7.length]; exact hlen ds h8
  have hb : ∀ (cdv : Value) (A : Around) (outer : List Env) (s : Shared) (H : Hp) (vs : List V) (Q : VK) (E : XK), Room k (A.deeper (envOfC qual (defScope st) s.heap.objs.size f cdv)) → spI K C ns pre post vs H Q E →
      ∃ t, PSs (cx0 P w K mg base N qual (defScope st) f cdv A outer s H E) (defBody st) t ∧ t { nx := fun _ H' => Q .non H', rt := Q } (L2.start N vs) H := by
    intro cdv A outer s H vs Q E hr h
    obtain ⟨S0, l, dx, ws, ds, rfl, hl, h1, h4, h7, h8, kk⟩ := h
    refine ⟨_, pss_ws, ?_⟩
    have st0 : St0 K (Fm.of H S0 [l]) [l] [.ins C [] []] H := by
      refine ⟨rfl, by simp, fun b hb => ?_, fun j b c e1 e2 => ?_, fun b o _ e => e, fun b h => h, h1, fun b hb => by rw [List.mem_singleton.mp hb, h4]; exact fun z => (by cases z), List.nil_prefix, fun _ _ e => by cases e⟩
      · rw [List.mem_singleton.mp hb]; exact ⟨hl, .inr (by simp)⟩
      · cases j with
        | zero =>
          simp at e1 e2
          subst e1; subst e2
          exact ⟨dx, [], h4, rfl, .nil⟩
        | succ j => simp at e1
    have sr : SRep K [l] (Fm.g (Fm.of H S0 [l]) [l] [.ins C [] []] H) (ent N.length (.c 0 :: ds.map R.d)) (L2.start N (.ref l :: ws)) := start_rep N (.cons ⟨l, rfl, rfl⟩ (RReps.ofD h7))
    have fin : ∀ {ls' : List Addr} {own' : List Cell} {H' : Hp}, Le (Fm.of H S0 [l]) [l] [.ins C [] []] H ls' own' H' → St0 K (Fm.of H S0 [l]) ls' own' H' → (∃ fs : List D, own'[0]? = some (.ins C ns (fs.map R.d)) ∧ post ds fs) → Q .non H' := by
      rintro ls' own' H' le s' ⟨fs, ec, q⟩
      have e0 : ls'[0]? = some l := pre_get le.pre rfl
      obtain ⟨dx', xs', g1, g2, g3⟩ := s'.at_ 0 l _ e0 ec
      refine kk _ _ _ _ (fun b o hb e => s'.keep b o (by simpa using hb) e) g1 (by rw [g2, List.length_map]) (Reps.mono (msk_le fun b hb => ?_) (RReps.toD g3)) q
      rcases List.mem_append.mp hb with h | h
      · exact List.mem_append_left _ h
      · rw [List.mem_singleton.mp h]; exact List.mem_append_right _ (live_get e0 ec fun z => by cases z)
    refine body cdv A outer s H E (Fm.of H S0 [l]) ds hr h8 [l] (L2.start N (.ref l :: ws)) H st0 sr _ ⟨?_, ?_, ?_, ?_⟩
    · intro ls' own' H' ρ σ le s' _ q
      exact fin le s' q
    · rintro ls' own' H' r v le s' rv ⟨rfl, q⟩
      have e := rr_non rv
      subst e
      exact fin le s' q
    · intro _ _ _ _ _ _ _ _ q; exact q
    · intro _ _ _ _ _ _ _ _ q; exact q
  rcases F with F | ⟨dvs, kws, F⟩
  · exact F.ok S len hb
  · refine F.ok S len fun cdv A outer s H vs Q E hr h => ?_
    obtain ⟨t, h1, h2⟩ := hb cdv A outer s H vs Q E hr h
    exact ⟨t, h1.nox, h2⟩
end

/-! ### calls -/
section
variable {X : Cx} {F : Fm} {own : List Cell} {ρ : Ro} {Q : QE} {k : Nat} {f C : Addr} {fd : FuncData} {ps : List Str} {pre : List D → Prop} {post : List D → D → Prop} {I : List D → Prop} {x m : Str} {p pos apos : Pos} {e o : Expr} {es : List Expr}
theorem reps_app {K : PySem.W.Frag} {ls : List Addr} {G : Hp} {ds : List D} {vs : List V} (h : RReps K ls G (ds.map R.d) vs) : Reps K G ds vs := RReps.toD h
/-- what a def that changes nothing hands on -/
theorem spF_use {ls own H Qv} {ds : List D} {vs : List V} (st : St0 X.K F ls own H) (rr : Reps X.K (F.g ls own H) ds vs) (hp : pre ds) (k : KV' X F ls own H Q Qv) (q : ∀ d, post ds d → Q own (.d d)) (E : XK) : spF X.K pre post vs H Qv E :=
  ⟨F.S0 ++ live ls own, ds, st.hid, rr, hp, fun v H' d sm rd pd => k ls own H' (.d d) v (Le.grow sm) (st.grow sm) rd (q d pd)⟩
theorem E.call (G : FnOk X.prog X.w X.K X.mg X.base CX0 k f fd ps (spF X.K pre post)) (hr : Room k X.A) (hm : X.mg x = some (.ref f)) (hk : PySem.W.keepIn X.K (.ref f) = true) (hb : Binds X.K fd ps [])
    (h : A X F (e :: es) (fun o rs => ∃ ds : List D, rs = ds.map R.d ∧ pre ds ∧ ∀ d, post ds d → Q o (.d d)) own ρ) (hg : Gl X x := by rfl) (hdb : (x == ("__debug__" : Str)) = false := by decide) (he : starEach (e :: es) X.env = (false, eval e X.env) :: starEach es X.env := by rfl)
    (hpl : (backTo pos (starEach es X.env)).any (·.1) = false := by rfl) : E X F (.Call (.Name x p) (e :: es) [] pos) Q own ρ := by
  constructor
  intro ls σ H st sr Qv k
  refine (pe_call G hr hg hm hk hb .nil pass0 pa_wa hdb he hpl).to ?_
  refine h ls σ H st sr _ fun ls1 own1 H1 rs vs l1 s1 rr ⟨ds, er, hp, q⟩ => ?_
  subst er
  rw [List.append_nil]
  exact spF_use s1 (RReps.toD rr) hp (fun _ _ _ _ _ l => k _ _ _ _ _ (l1.trans l)) q _
theorem st0_other {K : PySem.W.Frag} {F : Fm} {ls : List Addr} {own : List Cell} {H H' : Hp} {n : Nat} {l : Addr} {c c' : Cell} (st : St0 K F ls own H) (hl : ls[n]? = some l) (hc : own[n]? = some c) (nc : c ≠ .gone) (nc' : c' ≠ .gone) (hm : ∀ b o, b ≠ l → H b = some o → H' b = some o)
    (hn : H' l ≠ none) (at' : CellAt K ls (F.g ls own H') H' l c') : St0 K F ls (own.set n c') H' ∧ Le F ls own H ls (own.set n c') H' := by
  have el : ∀ H1, F.g ls (own.set n c') H1 = F.g ls own H1 := fun H1 => by show msk (F.S0 ++ live ls (own.set n c')) H1 = _; rw [live_set hc nc nc']
  have hin : l ∈ F.S0 ++ live ls own := List.mem_append_right _ (live_get hl hc nc)
  have sm : Same (F.g ls own H) (F.g ls own H') := msk_but fun b o hb e => hm b o (fun z => hb (z ▸ hin)) e
  have hnew := st.new l (List.mem_of_getElem? hl)
  refine ⟨⟨by rw [List.length_set]; exact st.len, st.nd, st.new, fun j b c1 e1 e2 => ?_, fun b o hb e => ?_, fun b hb => ?_, st.s0, fun b hb => ?_, st.ap, st.as.trans (by rw [el]; exact sm)⟩, ⟨List.prefix_rfl, by rw [el]; exact sm⟩⟩
  · rw [el]
    by_cases hj : n = j
    · subst hj
      have hlt : n < own.length := (List.getElem?_eq_some_iff.mp hc).1
      rw [List.getElem?_set_self hlt] at e2
      cases e2
      rw [hl] at e1
      cases e1
      exact at'
    · rw [List.getElem?_set_ne hj] at e2
      have hbl : b ≠ l := fun z => by
        subst z
        exact hj (nd_ix st.nd hl e1)
      exact (st.at_ j b c1 e1 e2).up List.prefix_rfl sm fun o q => hm b o hbl q
  · by_cases z : b = l
    · subst z
      rcases hnew.2 with h | h
      · rw [h] at e; cases e
      · exact absurd h hb
    · exact hm b o z (st.keep b o hb e)
  · by_cases z : b = l
    · subst z; exact hn
    · have := st.dom b hb
      cases q : H b with
      | none => exact absurd q this
      | some o => rw [hm b o z q]; exact fun z => by cases z
  · by_cases z : b = l
    · subst z; exact hn
    · have := st.there b hb
      cases q : H b with
      | none => exact absurd q this
      | some o => rw [hm b o z q]; exact fun z => by cases z
/-- a def that changes its first argument, a cell -/
theorem E.callP (G : FnOk X.prog X.w X.K X.mg X.base CX0 k f fd ps (spP X.K I pre post)) (hr : Room k X.A) (hm : X.mg x = some (.ref f)) (hk : PySem.W.keepIn X.K (.ref f) = true) (hb : Binds X.K fd ps [])
    (h : A X F (e :: es) (fun o rs => ∃ (n : Nat) (ds : List D), rs = .c n :: ds.map R.d ∧ o[n]? = some (.any I) ∧ pre ds ∧ ∀ d, post ds d → Q o (.d d)) own ρ) (hg : Gl X x := by rfl) (hdb : (x == ("__debug__" : Str)) = false := by decide) (he : starEach (e :: es) X.env = (false, eval e X.env) :: starEach es X.env := by rfl)
    (hpl : (backTo pos (starEach es X.env)).any (·.1) = false := by rfl) : E X F (.Call (.Name x p) (e :: es) [] pos) Q own ρ := by
  constructor
  intro ls σ H st sr Qv k
  refine (pe_call G hr hg hm hk hb .nil pass0 pa_wa hdb he hpl).to ?_
  refine h ls σ H st sr _ fun ls1 own1 H1 rs vs l1 s1 rr ⟨n, ds, er, hc, hp, q⟩ => ?_
  subst er
  rw [List.append_nil]
  cases rr with
  | cons r0 rr =>
    obtain ⟨l, hl, rfl⟩ := r0
    obtain ⟨xs, qs, g1, g2, g3⟩ := s1.at_ n l _ hl hc
    refine ⟨F.S0 ++ live ls1 own1, l, _, xs, qs, ds, rfl, List.mem_append_right _ (live_get hl hc fun z => by cases z), s1.hid, g1, g2, g3, RReps.toD rr, hp, fun v H' d xs' ps' hm' a1 a2 a3 a4 a5 => ?_⟩
    have z := st0_other (c' := .any I) s1 hl hc (fun z => by cases z) (fun z => by cases z) hm' (by rw [a1]; exact fun z => by cases z) ⟨xs', ps', a1, a2, a3⟩
    have eo : own1.set n (.any I) = own1 := by
      obtain ⟨hlt, e⟩ := List.getElem?_eq_some_iff.mp hc
      rw [← e]; exact List.set_getElem_self hlt
    rw [eo] at z
    exact k _ _ _ (.d d) _ (l1.trans z.2) z.1 a4 (q d a5)
/-- o.m(e, ..) of an instance, the method changes nothing -/
theorem meth_core {ns : List Str} {ds0 : List D} {v : V} {ls own H} (st : St0 X.K F ls own H) (rv : RRep X.K ls (F.g ls own H) (.d (.ins C ns ds0)) v) (hn : (ns.zip ds0).lookup m = none) : ∃ a dx fs, v = .ref a ∧ H a = some (.ins C dx fs) ∧ fs.lookup m = none := by
  obtain ⟨a, dx, xs, rfl, e, hl, hr⟩ := ins_rr rv
  refine ⟨a, dx, _, rfl, msk_same _ _ _ _ e, ?_⟩
  have key : ∀ (ns : List Str) (ds0 : List D) (xs : List V), ds0.length = xs.length → (ns.zip ds0).lookup m = none → (ns.zip xs).lookup m = none := by
    intro ns
    induction ns with
    | nil => intro _ _ _ _; rfl
    | cons n ns ih =>
      intro ds0 xs hl h
      cases ds0 with
      | nil => cases xs with
        | nil => rfl
        | cons _ _ => simp at hl
      | cons d ds0 => cases xs with
        | nil => simp at hl
        | cons y xs =>
          simp only [List.zip_cons_cons, List.lookup_cons] at h ⊢
          cases q : m == n with
          | true => rw [q] at h; cases h
          | false => rw [q] at h; exact ih ds0 xs (by simpa using hl) h
  exact key _ _ _ hr.length hn
theorem E.meth {pl : Sem Bool} (c : Cls X.K C) (hm : Meth X.K C m f) (G : FnOk X.prog X.w X.K X.mg X.base CX0 k f fd ps (spF X.K pre post)) (hr : Room k X.A) (hb : Binds X.K fd ps [])
    (h : E X F o (fun o1 r => ∃ ns ds0, r = .d (.ins C ns ds0) ∧ (ns.zip ds0).lookup m = none ∧ A X F (e :: es) (fun o2 rs => ∃ ds : List D, rs = ds.map R.d ∧ pre (.ins C ns ds0 :: ds) ∧ ∀ d, post (.ins C ns ds0 :: ds) d → Q o2 (.d d)) o1 ρ) own ρ)
    (hst : starEach (e :: es) X.env = (false, eval e X.env) :: starEach es X.env := by rfl) (hpl : (backTo pos (starEach es X.env)).any (·.1) = false := by rfl)
    (ht : eval (.Call (.Attribute o m apos) (e :: es) [] pos) X.env = (do
      let ov ← eval o X.env
      standAt apos.atName
      let (f, first) ← holding [ov] (getMethod ov m pl)
      callWith pos f first (backTo pos (starEach (e :: es) X.env)) (backToKw pos (keywordEach [] X.env))) := by rfl) : E X F (.Call (.Attribute o m apos) (e :: es) [] pos) Q own ρ := by
  constructor
  intro ls σ H st sr Qv k
  refine (pe_meth pe_we c hm G hr hb .nil pass0 pa_wa hst hpl ht).to ?_
  refine h ls σ H st sr _ fun ls1 own1 H1 r u l1 s1 rr ⟨ns, ds0, er, hn, ha⟩ => ?_
  subst er
  obtain ⟨a, dx, fs, rfl, g1, g2⟩ := meth_core s1 rr hn
  refine ⟨a, dx, fs, rfl, g1, g2, ?_⟩
  refine ha ls1 σ H1 s1 (sr.up l1.pre l1.same) _ fun ls2 own2 H2 rs vs l2 s2 rr2 ⟨ds, er, hp, q⟩ => ?_
  subst er
  rw [List.append_nil]
  exact spF_use s2 (Reps.cons (rr.up l2.pre l2.same) (RReps.toD rr2)) hp (fun _ _ _ _ _ l => k _ _ _ _ _ ((l1.trans l2).trans l)) q _
theorem E.meth0 {pl : Sem Bool} (c : Cls X.K C) (hm : Meth X.K C m f) (G : FnOk X.prog X.w X.K X.mg X.base CX0 k f fd ps (spF X.K pre post)) (hr : Room k X.A) (hb : Binds X.K fd ps [])
    (h : E X F o (fun o1 r => ∃ ns ds0, r = .d (.ins C ns ds0) ∧ (ns.zip ds0).lookup m = none ∧ pre [.ins C ns ds0] ∧ ∀ d, post [.ins C ns ds0] d → Q o1 (.d d)) own ρ)
    (ht : eval (.Call (.Attribute o m apos) [] [] pos) X.env = (do
      let ov ← eval o X.env
      standAt apos.atName
      let (f, first) ← holding [ov] (getMethod ov m pl)
      callWith pos f first (backTo pos (starEach [] X.env)) (backToKw pos (keywordEach [] X.env))) := by rfl) : E X F (.Call (.Attribute o m apos) [] [] pos) Q own ρ := by
  constructor
  intro ls σ H st sr Qv k
  refine (pe_meth0 pe_we c hm G hr hb .nil pass0 ht).to ?_
  refine h ls σ H st sr _ fun ls1 own1 H1 r u l1 s1 rr ⟨ns, ds0, er, hn, hp, q⟩ => ?_
  subst er
  obtain ⟨a, dx, fs, rfl, g1, g2⟩ := meth_core s1 rr hn
  refine ⟨a, dx, fs, rfl, g1, g2, ?_⟩
  show spF X.K pre post [.ref a] H1 Qv E0
  exact spF_use s1 (Reps.cons rr Reps.nil) hp (fun _ _ _ _ _ l => k _ _ _ _ _ (l1.trans l)) q _
/-- C(e, ..): ds the defaults that fill up -/
theorem E.make {ns : List Str} {postI : List D → List D → Prop} {dds : List D} {dvs : List V} {dus : List Value} (M : Mk X.K C f) (G : FnOk X.prog X.w X.K X.mg X.base CX0 k f fd ps (spI X.K C ns pre postI)) (hr : Room (k + 1) X.A) (hm : X.mg x = some (.ref C)) (hb : Binds X.K fd ps dus) (hdv : Vals dvs dus) (hdd : ∀ G, Reps X.K G dds dvs)
    (h : A X F (e :: es) (fun o rs => ∃ ds : List D, rs = ds.map R.d ∧ pre (ds ++ dds) ∧ ∀ fs, postI (ds ++ dds) fs → Q o (.d (.ins C ns fs))) own ρ) (hg : Gl X x := by rfl) (hdb : (x == ("__debug__" : Str)) = false := by decide) (he : starEach (e :: es) X.env = (false, eval e X.env) :: starEach es X.env := by rfl)
    (hpl : (backTo pos (starEach es X.env)).any (·.1) = false := by rfl) : E X F (.Call (.Name x p) (e :: es) [] pos) Q own ρ := by
  constructor
  intro ls σ H st sr Qv k
  refine (pe_make M G hr hg hm hb hdv pass0 pa_wa hdb he hpl).to ?_
  refine h ls σ H st sr _ fun ls1 own1 H1 rs vs l1 s1 rr ⟨ds, er, hp, q⟩ => ?_
  subst er
  intro a dx ha hdx hne
  have hid : a ∉ F.S0 ++ live ls1 own1 := fun z => s1.hid a z ha
  have sm0 : Same H1 (upd (upd H1 dx (.own a)) a (.ins C dx [])) := fun b o e => by rw [upd_ne (ne_of_none e ha), upd_ne (ne_of_none e hdx)]; exact e
  refine ⟨F.S0 ++ live ls1 own1, a, dx, _, ds ++ dds, rfl, hid, fun b hb z => ?_, upd_same, ?_, hp, fun H' dx' xs fs hm' a1 a2 a3 a4 => ⟨rfl, ?_⟩⟩
  · have := s1.hid b hb
    cases q1 : H1 b with
    | none => exact this q1
    | some o => rw [sm0 b o q1] at z; cases z
  · refine Reps.append (Reps.mono (fun b o e => ?_) (RReps.toD rr)) (hdd _)
    have hb : b ≠ a := fun z => by
      subst z
      have := msk_same _ _ _ _ e
      rw [ha] at this; cases this
    have e : msk (F.S0 ++ live ls1 own1) H1 b = some o := e
    unfold msk at e ⊢
    split at e
    · cases e
    · rename_i hn
      rw [if_neg (by rw [List.mem_append, List.mem_singleton]; exact fun z => z.elim hn hb)]
      exact sm0 b o e
  · have sm : Same H1 H' := fun b o e => hm' b o (fun z => by subst z; rw [ha] at e; cases e) (sm0 b o e)
    refine k ls1 own1 H' (.d (.ins C ns fs)) _ (l1.trans (Le.grow sm)) (s1.grow sm) ?_ (q fs a4)
    simp only [RRep, Rep]
    refine ⟨a, dx', xs, rfl, ?_, a2, Reps.mono (msk_le fun b hb => List.mem_append_left _ hb) a3⟩
    show msk (F.S0 ++ live ls1 own1) H' a = _
    rw [msk_out hid]
    exact a1
/-! ### attributes -/
theorem zip_lookup {K : PySem.W.Frag} {G : Hp} {g : Str} {d : D} : ∀ {ns : List Str} {ds : List D} {xs : List V}, Reps K G ds xs → (ns.zip ds).lookup g = some d → ∃ y, (ns.zip xs).lookup g = some y ∧ Rep K G d y
  | [], _, _, _, h => by simp at h
  | n :: ns, [], _, _, h => by simp at h
  | n :: ns, a :: ds, _, hr, h => by
    simp only [Reps] at hr
    obtain ⟨y, r, rfl, h2, h3⟩ := hr
    simp only [List.zip_cons_cons, List.lookup_cons] at h ⊢
    cases q : g == n with
    | true =>
      rw [q] at h
      cases h
      exact ⟨y, rfl, h2⟩
    | false =>
      rw [q] at h
      exact zip_lookup h3 h
theorem E.fld {g : Str} (h : E X F e (fun o r => ∃ C ns ds d, r = .d (.ins C ns ds) ∧ Cls X.K C ∧ NoAttr X.K C g ∧ (ns.zip ds).lookup g = some d ∧ Q o (.d d)) own ρ) (hb : attributeBase e g X.env (eval e X.env) = eval e X.env := by rfl) : E X F (.Attribute e g pos) Q own ρ := by
  constructor
  intro ls σ H st sr Qv k
  refine (pe_fld pe_we hb).to ?_
  refine h ls σ H st sr _ fun ls1 own1 H1 r u l1 s1 rr ⟨C, ns, ds, d, er, hc, hn, hl, q⟩ => ?_
  subst er
  obtain ⟨a, dx, xs, rfl, e1, e2, e3⟩ := ins_rr rr
  obtain ⟨y, e4, e5⟩ := zip_lookup e3 hl
  exact ⟨a, C, dx, _, y, rfl, msk_same _ _ _ _ e1, hc, hn, e4, k _ _ _ (.d d) _ l1 s1 e5 q⟩
/-- self.g = e in an __init__, g new there -/
theorem W1.fldN {P : Po} {g : Str} {v : Expr} {pos' : Pos} (h : E X F v (fun o1 r => E X F e (fun o2 t => ∃ n C ns rs, t = .c n ∧ o2[n]? = some (.ins C ns rs) ∧ Cls X.K C ∧ NoAttr X.K C g ∧ g ∉ ns ∧ rs.length < 1000 ∧ P.nx (o2.set n (.ins C (ns ++ [g]) (rs ++ [r]))) ρ) o1 ρ) own ρ)
    (hs : swapsWith v (some (.Attribute e g pos')) pos.line X.env = pure false := by rfl) : W1 X F (.Assign [.Attribute e g pos'] v pos) P own ρ := by
  constructor
  intro ls σ H st sr De k
  refine (ps_fld pe_we pe_we hs).to ?_
  refine h ls σ H st sr _ fun ls1 own1 H1 r u l1 s1 rr he => ?_
  refine he ls1 σ H1 s1 (sr.up l1.pre l1.same) _ fun ls2 own2 H2 t y l2 s2 rt ⟨n, C, ns, rs, et, hc, c, na, hg, hlen, q⟩ => ?_
  subst et
  obtain ⟨l, hl, rfl⟩ := rt
  obtain ⟨dx, xs, g1, g2, g3⟩ := s2.at_ n l _ hl hc
  have hx : ns.length = xs.length := by rw [g2, g3.length']
  have hz : ∀ (ns : List Str) (xs : List V), ns.length = xs.length → g ∉ ns → putF g u (ns.zip xs) = (ns ++ [g]).zip (xs ++ [u]) := by
    intro ns
    induction ns with
    | nil => intro xs h _; cases xs with
      | nil => rfl
      | cons _ _ => simp at h
    | cons m ns ih => intro xs h hn; cases xs with
      | nil => simp at h
      | cons y xs =>
        have hm : ¬ m = g := fun z => hn (by rw [z]; exact List.mem_cons_self ..)
        show (if m = g then (m, u) :: ns.zip xs else (m, y) :: putF g u (ns.zip xs)) = _
        rw [if_neg hm, ih xs (by simpa using h) fun z => hn (List.mem_cons_of_mem _ z)]
        rfl
  refine ⟨l, C, dx, _, rfl, g1, c, na, ?_, ?_⟩
  · rw [List.length_zip, g2, g3.length', Nat.min_self, ← g3.length']; exact hlen
  · rw [hz ns xs hx hg]
    have up := l2.same
    have z := st0_other (H' := upd H2 l (.ins C dx ((ns ++ [g]).zip (xs ++ [u])))) (c' := .ins C (ns ++ [g]) (rs ++ [r])) s2 hl hc (fun z => by cases z) (fun z => by cases z) (fun b o hb e => by rw [upd_ne hb]; exact e) (by rw [upd_same]; exact fun z => by cases z) ⟨dx, xs ++ [u], upd_same, by simp [g2], by
      have em : F.g ls2 own2 (upd H2 l (.ins C dx ((ns ++ [g]).zip (xs ++ [u])))) = F.g ls2 own2 H2 := msk_upd_in (List.mem_append_right _ (live_get hl hc fun z => by cases z))
      rw [em]
      exact Paired.snoc g3 (rr.up l2.pre l2.same)⟩
    exact k.nx _ _ _ ρ σ ((l1.trans l2).trans z.2) z.1 (sr.up ((l1.trans l2).trans z.2).pre ((l1.trans l2).trans z.2).same) q
end
end DL

namespace DL
open PySem PySem.Spec PyProof.Rows L2

/-! ### new cells, cells that are given up -/
section
variable {K : PySem.W.Frag} {F : Fm} {ls : List Addr} {own : List Cell} {H H' : Hp}
theorem st0_adopt (st : St0 K F ls own H) (sm : Same H H') {p : Addr} {c : Cell} (hp : H p = none) (hc : c ≠ .gone) (at' : CellAt K (ls ++ [p]) (msk (F.S0 ++ live ls own ++ [p]) H') H' p c) : St0 K F (ls ++ [p]) (own ++ [c]) H' ∧ Le F ls own H (ls ++ [p]) (own ++ [c]) H' := by
  have el : F.g (ls ++ [p]) (own ++ [c]) H' = msk (F.S0 ++ live ls own ++ [p]) H' := by
    show msk (F.S0 ++ live (ls ++ [p]) (own ++ [c])) H' = _
    rw [live_snoc st.len hc, List.append_assoc]
  have hid : p ∉ F.S0 ++ live ls own := fun z => st.hid p z hp
  have sg : Same (F.g ls own H) (msk (F.S0 ++ live ls own ++ [p]) H') := fun b o e => by
    have hb : b ≠ p := fun z => by
      subst z
      have := msk_same _ _ _ _ e
      rw [hp] at this; cases this
    have e : msk (F.S0 ++ live ls own) H b = some o := e
    unfold msk at e ⊢
    split at e
    · cases e
    · rename_i hn
      rw [if_neg (by rw [List.mem_append, List.mem_singleton]; exact fun z => z.elim hn hb)]
      exact sm b o e
  have h0 : F.H0 p = none := by
    cases q : F.H0 p with
    | none => rfl
    | some o => exact absurd hp (st.dom p (by rw [q]; exact fun z => by cases z))
  have pn : p ∉ ls := fun z => st.there p z hp
  refine ⟨⟨by rw [List.length_append, List.length_append, st.len]; rfl, ?_, fun l hl => ?_, fun j b c1 e1 e2 => ?_, fun b o hb e => sm _ _ (st.keep b o hb e), fun b hb => ?_, st.s0, fun b hb => ?_, st.ap.trans (List.prefix_append _ _), st.as.trans (by rw [el]; exact sg)⟩, ⟨List.prefix_append _ _, by rw [el]; exact sg⟩⟩
  · rw [List.nodup_append]
    exact ⟨st.nd, by simp, fun a ha b hb => by rw [List.mem_singleton.mp hb]; exact fun z => pn (z ▸ ha)⟩
  · rcases List.mem_append.mp hl with h | h
    · exact st.new l h
    · rw [List.mem_singleton.mp h]
      exact ⟨fun z => hid (List.mem_append_left _ z), .inl h0⟩
  · rw [el]
    by_cases hj : j < own.length
    · rw [List.getElem?_append_left hj] at e2
      rw [List.getElem?_append_left (by rw [st.len]; exact hj)] at e1
      exact (st.at_ j b c1 e1 e2).up (List.prefix_append _ _) sg fun o e => sm _ _ e
    · rw [List.getElem?_append_right (by omega)] at e2
      rw [List.getElem?_append_right (by rw [st.len]; omega), st.len] at e1
      cases q : j - own.length with
      | zero =>
        rw [q] at e1 e2
        simp at e1 e2
        subst e1; subst e2
        exact at'
      | succ n => rw [q] at e1; simp at e1
  · have := st.dom b hb
    cases q : H b with
    | none => exact absurd q this
    | some o => rw [sm b o q]; exact fun z => by cases z
  · rcases List.mem_append.mp hb with h | h
    · have := st.there b h
      cases q : H b with
      | none => exact absurd q this
      | some o => rw [sm b o q]; exact fun z => by cases z
    · rw [List.mem_singleton.mp h]
      cases c with
      | gone => exact absurd rfl hc
      | lst rs => obtain ⟨xs, e, _⟩ := at'; rw [e]; exact fun z => by cases z
      | ins C ns rs => obtain ⟨dx, xs, e, _⟩ := at'; rw [e]; exact fun z => by cases z
      | any P => obtain ⟨xs, ds, e, _⟩ := at'; rw [e]; exact fun z => by cases z
/-- a list that no longer changes: data from now on -/
def subR (n : Nat) (d : D) : R → R
  | .c k => if k = n then .d d else .c k
  | .d x => .d x
theorem live_gone : ∀ {ls : List Addr} {own : List Cell} {n : Nat} {l : Addr}, ls.Nodup → ls[n]? = some l → l ∉ live ls (own.set n .gone)
  | [], _, _, _, _, h => by simp at h
  | a :: ls, [], n, l, _, _ => by simp [live]
  | a :: ls, e :: own, 0, l, nd, h => by
    simp at h
    subst h
    simp only [List.set_cons_zero, live]
    exact fun z => (List.nodup_cons.mp nd).1 (live_mem z)
  | a :: ls, e :: own, n + 1, l, nd, h => by
    have ih := live_gone (ls := ls) (own := own) (n := n) (l := l) (List.nodup_cons.mp nd).2 (by simpa using h)
    have hal : l ≠ a := fun z => (List.nodup_cons.mp nd).1 (z ▸ List.mem_of_getElem? (by simpa using h))
    simp only [List.set_cons_succ]
    cases e <;> simp only [live, List.mem_cons, not_or]
    · exact ih
    all_goals exact ⟨hal, ih⟩
theorem live_gone_le : ∀ {ls : List Addr} {own : List Cell} {n : Nat} {b : Addr}, b ∈ live ls (own.set n .gone) → b ∈ live ls own
  | [], _, _, _, h => by simp [live] at h
  | a :: ls, [], n, b, h => by simpa using h
  | a :: ls, e :: own, 0, b, h => by
    simp only [List.set_cons_zero, live] at h
    cases e <;> simp only [live, List.mem_cons]
    · exact h
    all_goals exact .inr h
  | a :: ls, e :: own, n + 1, b, h => by
    simp only [List.set_cons_succ] at h
    cases e <;> simp only [live, List.mem_cons] at h ⊢
    · exact live_gone_le h
    all_goals exact h.imp id live_gone_le
theorem st0_freeze (st : St0 K F ls own H) {n : Nat} {ds : List D} (hc : own[n]? = some (.lst (ds.map R.d))) : St0 K F ls (own.set n .gone) H ∧ Le F ls own H ls (own.set n .gone) H ∧
    ∀ {r : R} {v : V}, RRep K ls (F.g ls own H) r v → RRep K ls (F.g ls (own.set n .gone) H) (subR n (.lst ds) r) v := by
  have sg : Same (F.g ls own H) (F.g ls (own.set n .gone) H) := msk_le fun b hb => by
    rcases List.mem_append.mp hb with h | h
    · exact List.mem_append_left _ h
    · exact List.mem_append_right _ (live_gone_le h)
  refine ⟨⟨by rw [List.length_set]; exact st.len, st.nd, st.new, fun j b c e1 e2 => ?_, st.keep, st.dom, st.s0, st.there, st.ap, st.as.trans sg⟩, ⟨List.prefix_rfl, sg⟩, fun {r v} h => ?_⟩
  · by_cases hj : n = j
    · subst hj
      have hlt : n < own.length := (List.getElem?_eq_some_iff.mp hc).1
      rw [List.getElem?_set_self hlt] at e2
      cases e2
      exact True.intro
    · rw [List.getElem?_set_ne hj] at e2
      exact (st.at_ j b c e1 e2).up List.prefix_rfl sg fun o e => e
  · cases r with
    | d x => exact Rep.mono sg h
    | c k =>
      obtain ⟨l, hl, rfl⟩ := h
      by_cases hk : k = n
      · subst hk
        obtain ⟨xs, g1, g2⟩ := st.at_ k l _ hl hc
        simp only [subR, if_true, RRep, Rep]
        refine ⟨l, xs, rfl, ?_, Reps.mono sg (RReps.toD g2)⟩
        show msk (F.S0 ++ live ls (own.set k .gone)) H l = _
        rw [msk_out]
        · exact g1
        · rw [List.mem_append]
          exact fun z => z.elim (st.new l (List.mem_of_getElem? hl)).1 (live_gone st.nd hl)
      · simp only [subR, if_neg hk]
        exact ⟨l, hl, rfl⟩
end

section
variable {X : Cx} {F : Fm} {own : List Cell} {ρ : Ro} {Q : QE} {P : Po} {e b iter tg : Expr} {es : List Expr} {pos : Pos} {st : Stmt} {sts body rest : List Stmt}
theorem srep_freeze {n : Nat} {d : D} {K ls G G'} (h : ∀ {r : R} {v : V}, RRep K ls G r v → RRep K ls G' (subR n d r) v) : ∀ {ρ : Ro} {σ : L2.St}, SRep K ls G ρ σ → SRep K ls G' (ρ.map (Option.map (subR n d))) σ
  | _, _, .nil => .nil
  | _, _, .cons (a := a) (b := b) q t => .cons (by
      cases a with
      | none => exact True.intro
      | some r => cases b with
        | none => exact q.elim
        | some v => exact h q) (srep_freeze h t)
theorem W.freeze (n : Nat) {ds : List D} (hc : own[n]? = some (.lst (ds.map R.d))) (h : W X F sts P (own.set n .gone) (ρ.map (Option.map (subR n (.lst ds))))) : W X F sts P own ρ := by
  constructor
  intro ls σ H s0 sr De k
  obtain ⟨a, b, c⟩ := st0_freeze s0 hc
  exact h ls σ H a (srep_freeze c sr) De (k.up b)
/-- what is known of a cell is opened -/
theorem W.openC (n : Nat) {I : List D → Prop} (hc : own[n]? = some (.any I)) (h : ∀ ds, I ds → W X F sts P (own.set n (.lst (ds.map R.d))) ρ) : W X F sts P own ρ := by
  constructor
  intro ls σ H s0 sr De k
  have hn : n < ls.length := by rw [s0.len]; exact (List.getElem?_eq_some_iff.mp hc).1
  have hl : ls[n]? = some ls[n] := List.getElem?_eq_getElem hn
  obtain ⟨xs, ds, g1, g2, g3⟩ := s0.at_ n _ _ hl hc
  have z := st0_other (c' := .lst (ds.map R.d)) s0 hl hc (fun z => by cases z) (fun z => by cases z) (fun b o _ e => e) (by rw [g1]; exact fun z => by cases z) ⟨xs, g1, RReps.ofD g2⟩
  exact h ds g3 ls σ H z.1 (sr.up z.2.pre z.2.same) De (k.up z.2)
/-- .. and closed again -/
theorem W.closeC (n : Nat) {I : List D → Prop} {ds : List D} (hc : own[n]? = some (.lst (ds.map R.d))) (hi : I ds) (h : W X F sts P (own.set n (.any I)) ρ) : W X F sts P own ρ := by
  constructor
  intro ls σ H s0 sr De k
  have hn : n < ls.length := by rw [s0.len]; exact (List.getElem?_eq_some_iff.mp hc).1
  have hl : ls[n]? = some ls[n] := List.getElem?_eq_getElem hn
  obtain ⟨xs, g1, g2⟩ := s0.at_ n _ _ hl hc
  have z := st0_other (c' := .any I) s0 hl hc (fun z => by cases z) (fun z => by cases z) (fun b o _ e => e) (by rw [g1]; exact fun z => by cases z) ⟨xs, ds, g1, RReps.toD g2, hi⟩
  exact h ls σ H z.1 (sr.up z.2.pre z.2.same) De (k.up z.2)
/-- a written list that will change: a new cell -/
theorem E.lstC (h : A X F es (fun o rs => rs.length ≤ sizeLine ∧ Q (o ++ [.lst rs]) (.c o.length)) own ρ) : E X F (.List es pos) Q own ρ := by
  constructor
  intro ls σ H s0 sr Qv k
  refine (pe_lst pa_wa).to ?_
  refine h ls σ H s0 sr _ fun ls1 own1 H1 rs vs l1 s1 rr ⟨hl, q⟩ => ?_
  refine ⟨by rw [← rr.length']; exact hl, fun p hp => ?_⟩
  have em : msk (F.S0 ++ live ls1 own1 ++ [p]) (upd H1 p (.lst vs)) = msk (F.S0 ++ live ls1 own1) H1 := by
    rw [msk_upd_in (List.mem_append_right _ (List.mem_singleton.mpr rfl))]
    funext c
    unfold msk
    by_cases hc : c = p
    · subst hc
      rw [if_pos (List.mem_append_right _ (List.mem_singleton.mpr rfl))]
      split
      · rfl
      · exact hp.symm
    · simp only [List.mem_append, List.mem_singleton, hc, or_false]
  have z := st0_adopt (c := .lst rs) s1 (same_new (o := .lst vs) hp) hp (fun z => by cases z) ⟨vs, upd_same, by rw [em]; exact rr.up (List.prefix_append _ _) (Same.refl _)⟩
  exact k _ _ _ (.c own1.length) _ (l1.trans z.2) z.1 ⟨p, by rw [← s1.len]; simp, rfl⟩ q
/-- list(x) that will change -/
theorem Cl.listC {ds : List D} (h : Q (own ++ [.lst (ds.map R.d)]) (.c own.length)) : Cl X F (.type "list") [.d (.lst ds)] Q own := by
  constructor
  intro ls H vs s1 rr Qv k
  obtain ⟨v, rfl, rv⟩ := rrs1 rr
  obtain ⟨a, xs, rfl, hs, hr⟩ := lst_rr rv
  refine call_list_of.to ⟨a, xs, rfl, .inl (sq_h hs), fun p hp => ?_⟩
  have em : msk (F.S0 ++ live ls own ++ [p]) (upd H p (.lst xs)) = msk (F.S0 ++ live ls own) H := by
    rw [msk_upd_in (List.mem_append_right _ (List.mem_singleton.mpr rfl))]
    funext c
    unfold msk
    by_cases hc : c = p
    · subst hc
      rw [if_pos (List.mem_append_right _ (List.mem_singleton.mpr rfl))]
      split
      · rfl
      · exact hp.symm
    · simp only [List.mem_append, List.mem_singleton, hc, or_false]
  have z := st0_adopt (c := .lst (ds.map R.d)) s1 (same_new (o := .lst xs) hp) hp (fun z => by cases z) ⟨xs, upd_same, by rw [em]; exact RReps.ofD hr⟩
  exact k _ _ _ (.c own.length) _ z.2 z.1 ⟨p, by rw [← s1.len]; simp, rfl⟩ h
/-- x.append(e), x a cell -/
theorem E.append {apos cpos : Pos} {o : Expr} (h : E X F o (fun o1 t => ∃ n, t = .c n ∧ E X F e (fun o2 r => ∃ rs, o2[n]? = some (.lst rs) ∧ rs.length < sizeLine ∧ Q (o2.set n (.lst (rs ++ [r]))) (.d .non)) o1 ρ ∧ ∃ rs, o1[n]? = some (.lst rs)) own ρ)
    (hbase : attributeBase o "append" X.env (eval o X.env) = eval o X.env := by rfl)
    (hfew : ((backTo cpos (starEach [e] X.env)).all (fun x => !x.1) && (backToKw cpos (keywordEach [] X.env)).all (fun x => x.1.isSome)
      && decide ([e].length + ([] : List Keyword).length + (if ([] : List Keyword).isEmpty then 0 else 1) < 30)) = true := by rfl)
    (hline : (apos.endLine == cpos.line) = true := by rfl) (hs : starEach [e] X.env = (false, eval e X.env) :: starEach [] X.env := by rfl) (hplain : (backTo cpos (starEach [] X.env)).any (·.1) = false := by rfl) : E X F (.Call (.Attribute o "append" apos) [e] [] cpos) Q own ρ := by
  constructor
  intro ls σ H s0 sr Qv k
  refine (pe_bm PySem.F.plainAttrs_list PySem.F.slot_list_append PySem.F.type_list_append mt_append pe_we (pa_cons pe_we pa_nil hs) hbase hfew hline hs hplain).to ?_
  refine h ls σ H s0 sr _ fun ls1 own1 H1 t u l1 s1 rt ⟨n, et, he, rs0, hc0⟩ => ?_
  subst et
  obtain ⟨l, hl, rfl⟩ := rt
  obtain ⟨xs0, g0, _⟩ := s1.at_ n l _ hl hc0
  refine ⟨.inl ⟨rfl, _, .inl (.inl g0)⟩, ?_⟩
  refine he ls1 σ H1 s1 (sr.up l1.pre l1.same) _ fun ls2 own2 H2 r v l2 s2 rr ⟨rs, hc, hz, q⟩ => ?_
  have hl2 := pre_get l2.pre hl
  obtain ⟨xs, g1, g2⟩ := s2.at_ n l _ hl2 hc
  refine ⟨l, xs, v, rfl, rfl, g1, by rw [← g2.length']; exact hz, ?_⟩
  have em : F.g ls2 own2 (upd H2 l (.lst (xs ++ [v]))) = F.g ls2 own2 H2 := msk_upd_in (List.mem_append_right _ (live_get hl2 hc fun z => by cases z))
  have z := st0_other (H' := upd H2 l (.lst (xs ++ [v]))) (c' := .lst (rs ++ [r])) s2 hl2 hc (fun z => by cases z) (fun z => by cases z) (fun b o hb e => by rw [upd_ne hb]; exact e) (by rw [upd_same]; exact fun z => by cases z) ⟨xs ++ [v], upd_same, by rw [em]; exact Paired.snoc g2 rr⟩
  exact k _ _ _ (.d .non) _ ((l1.trans l2).trans z.2) z.1 ir_non q
/-- a[i] = e, a a cell -/
theorem W1.setIx {a : Expr} {p2 : Pos} (h : E X F e (fun o1 r => E X F a (fun o2 t => E X F b (fun o3 i => ∃ n k j rs, t = .c n ∧ i = .d (.int k) ∧ o3[n]? = some (.lst rs) ∧ ixN rs.length k = some j ∧ P.nx (o3.set n (.lst (rs.set j r))) ρ) o2 ρ) o1 ρ) own ρ)
    (ha : ∀ v, assign (.Subscript a b p2) X.env v = (do
      let ov ← holding [v] (eval a X.env)
      let iv ← holding [v, ov] (eval b X.env)
      standAt p2
      holding [v, ov, iv] (setItem ov iv v)
      release [v, ov, iv] []) := by intro _; rfl)
    (hs : swapsWithSole [.Subscript a b p2] e pos.line X.env = pure false := by rfl) (hw : swappedStores [.Subscript a b p2] e X.env = pure none := by rfl)
    (h1 : (assignEach [.Subscript a b p2] X.env).map (·.2) = [assign (.Subscript a b p2) X.env] := by rfl) : W1 X F (.Assign [.Subscript a b p2] e pos) P own ρ := by
  constructor
  intro ls σ H s0 sr De k
  refine (ps_asg pe_we (pg_sub pe_we pe_we set_list ha) hs hw h1).to ?_
  refine h ls σ H s0 sr _ fun ls1 own1 H1 r v l1 s1 rr he => ?_
  refine he ls1 σ H1 s1 (sr.up l1.pre l1.same) _ fun ls2 own2 H2 t u l2 s2 rt he => ?_
  refine he ls2 σ H2 s2 (sr.up (l1.trans l2).pre (l1.trans l2).same) _ fun ls3 own3 H3 i y l3 s3 ri ⟨n, kk, j, rs, et, ei, hc, hj, q⟩ => ?_
  subst et; subst ei
  cases rr_int ri
  obtain ⟨l, hl, rfl⟩ := rt.up l3.pre l3.same
  obtain ⟨xs, g1, g2⟩ := s3.at_ n l _ hl hc
  refine ⟨l, xs, kk, j, rfl, rfl, g1, by rw [← g2.length']; exact hj, ?_⟩
  have em : F.g ls3 own3 (upd H3 l (.lst (xs.set j v))) = F.g ls3 own3 H3 := msk_upd_in (List.mem_append_right _ (live_get hl hc fun z => by cases z))
  have setP : ∀ {rs : List R} {xs : List V} (j : Nat) {r : R} {v : V} {K ls G}, RRep K ls G r v → RReps K ls G rs xs → RReps K ls G (rs.set j r) (xs.set j v) := by
    intro rs xs j r v K ls G h t
    induction t generalizing j with
    | nil => exact .nil
    | cons a t ih => cases j with
      | zero => exact .cons h t
      | succ j => exact .cons a (ih j)
  have z := st0_other (H' := upd H3 l (.lst (xs.set j v))) (c' := .lst (rs.set j r)) s3 hl hc (fun z => by cases z) (fun z => by cases z) (fun b o hb e => by rw [upd_ne hb]; exact e) (by rw [upd_same]; exact fun z => by cases z) ⟨xs.set j v, upd_same, by rw [em]; exact setP j (rr.up (l2.trans l3).pre (l2.trans l3).same) g2⟩
  have le := ((l1.trans l2).trans l3).trans z.2
  exact k.nx _ _ _ ρ σ le z.1 (sr.up le.pre le.same) q

/-! ### targets -/
structure Tg (X : Cx) (F : Fm) (tg : Expr) (r : R) (Q : List Cell → Ro → Prop) (own : List Cell) (ρ : Ro)  : Prop where
  mk :: (run : ∀ ls σ H v, St0 X.K F ls own H → SRep X.K ls (F.g ls own H) ρ σ → RRep X.K ls (F.g ls own H) r v → ∀ Qs : L2.St → Hp → Prop,
    (∀ ls' own' H' ρ' σ', Le F ls own H ls' own' H' → St0 X.K F ls' own' H' → SRep X.K ls' (F.g ls' own' H') ρ' σ' → Q own' ρ' → Qs σ' H') → wpg X tg v σ H Qs)
instance {X : Cx} {F : Fm} {tg : Expr} {r : R} {Q : List Cell → Ro → Prop} {own : List Cell} {ρ : Ro}  : CoeFun (Tg X F tg r Q own ρ) (fun _ => ∀ ls σ H v, St0 X.K F ls own H → SRep X.K ls (F.g ls own H) ρ σ → RRep X.K ls (F.g ls own H) r v → ∀ Qs : L2.St → Hp → Prop,
    (∀ ls' own' H' ρ' σ', Le F ls own H ls' own' H' → St0 X.K F ls' own' H' → SRep X.K ls' (F.g ls' own' H') ρ' σ' → Q own' ρ' → Qs σ' H') → wpg X tg v σ H Qs) := ⟨Tg.run⟩
theorem pg_w {tg : Expr} : PG X tg (wpg X tg) := ⟨fun pins s σ H v u Q I r h => h pins s u I r⟩
theorem _root_.L2.PG.to {tg : Expr} {t : TG} {v : V} {σ : L2.St} {H : Hp} {Q : L2.St → Hp → Prop} (p : PG X tg t) (h : t v σ H Q) : wpg X tg v σ H Q := fun pins s u I r => p.run pins s σ H v u Q I r h
theorem Tg.name (i : Nat) {x : Str} {r : R} {Q : List Cell → Ro → Prop} (h : Q own (ρ.set i (some r))) (hN : X.N.Nodup) (hi : X.N[i]? = some x := by rfl) (hx : Loc X.env.scope x := by first | exact Or.inl rfl | exact Or.inr rfl) (hf : X.fn x = true ∨ X.env.scope.names.lookup x = some .local := by first | exact .inl rfl | exact .inr rfl | assumption) : Tg X F (.Name x pos) r Q own ρ := by
  constructor
  intro ls σ H v s0 sr rv Qs k
  exact (pg_name hN hi hx hf).to (k _ _ _ _ _ Le.refl s0 (SRep.set rv i sr) h)
def wpgs (X : Cx) (ts : List Expr) : TGs := fun vs σ H Q => ∀ pins s us, Inv X pins σ H s → Vals vs us → wpAny (model X.prog X.w) X.A (assignInOrder ((assignEach ts X.env).map (·.2)) us) (fun _ s' => ∃ σ' H', Inv X pins σ' H' s' ∧ Q σ' H') X.xe s
theorem pgs_w {ts : List Expr} : PGs X ts (wpgs X ts) := ⟨fun pins s σ H v u Q I r h => h pins s u I r⟩
theorem _root_.L2.PGs.to {ts : List Expr} {t : TGs} {v : List V} {σ : L2.St} {H : Hp} {Q : L2.St → Hp → Prop} (p : PGs X ts t) (h : t v σ H Q) : wpgs X ts v σ H Q := fun pins s u I r => p.run pins s σ H v u Q I r h
structure Tgs (X : Cx) (F : Fm) (tgs : List Expr) (rs : List R) (Q : List Cell → Ro → Prop) (own : List Cell) (ρ : Ro)  : Prop where
  mk :: (run : ∀ ls σ H vs, St0 X.K F ls own H → SRep X.K ls (F.g ls own H) ρ σ → RReps X.K ls (F.g ls own H) rs vs → ∀ Qs : L2.St → Hp → Prop,
    (∀ ls' own' H' ρ' σ', Le F ls own H ls' own' H' → St0 X.K F ls' own' H' → SRep X.K ls' (F.g ls' own' H') ρ' σ' → Q own' ρ' → Qs σ' H') → wpgs X tgs vs σ H Qs)
instance {X : Cx} {F : Fm} {tgs : List Expr} {rs : List R} {Q : List Cell → Ro → Prop} {own : List Cell} {ρ : Ro}  : CoeFun (Tgs X F tgs rs Q own ρ) (fun _ => ∀ ls σ H vs, St0 X.K F ls own H → SRep X.K ls (F.g ls own H) ρ σ → RReps X.K ls (F.g ls own H) rs vs → ∀ Qs : L2.St → Hp → Prop,
    (∀ ls' own' H' ρ' σ', Le F ls own H ls' own' H' → St0 X.K F ls' own' H' → SRep X.K ls' (F.g ls' own' H') ρ' σ' → Q own' ρ' → Qs σ' H') → wpgs X tgs vs σ H Qs) := ⟨Tgs.run⟩
theorem Tgs.nil {Q : List Cell → Ro → Prop} (h : Q own ρ) : Tgs X F [] [] Q own ρ := .mk fun ls σ H vs s0 sr rr Qs k => by
  cases rr
  exact pgs_nil.to ⟨rfl, k _ _ _ _ _ Le.refl s0 sr h⟩
theorem Tgs.cons {tgs : List Expr} {r : R} {rs : List R} {Q : List Cell → Ro → Prop} (h : Tg X F tg r (fun o ρ' => Tgs X F tgs rs Q o ρ') own ρ) (hs : (assignEach (tg :: tgs) X.env).map (·.2) = assign tg X.env :: (assignEach tgs X.env).map (·.2) := by rfl) : Tgs X F (tg :: tgs) (r :: rs) Q own ρ := by
  constructor
  intro ls σ H vs s0 sr rr Qs k
  cases rr with
  | cons r0 rr =>
    refine (pgs_cons pg_w pgs_w hs).to ⟨_, _, rfl, ?_⟩
    refine h ls σ H _ s0 sr r0 _ fun ls1 own1 H1 ρ1 σ1 l1 s1 sr1 q => ?_
    exact q ls1 σ1 H1 _ s1 sr1 (RReps.up l1.pre l1.same rr) Qs fun _ _ _ _ _ l => k _ _ _ _ _ (l1.trans l)
theorem Tg.tup {tgs : List Expr} {k0 : Nat} {ds : List D} {Q : List Cell → Ro → Prop} (hc : X.calm = true) (h : Tgs X F tgs (ds.map R.d) Q own ρ) (hl : ds.length = tgs.length) (hn : (assignEach tgs X.env).length = tgs.length := by rfl) (hst : (assignEach tgs X.env).findIdx? (·.1) = none := by rfl) : Tg X F (.Tuple tgs k0 pos) (.d (.tup ds)) Q own ρ := by
  constructor
  intro ls σ H v s0 sr rv Qs k
  obtain ⟨p, xs, rfl, hs, hr⟩ := tup_rr rv
  refine (pg_tup hc pgs_w hn hst).to ⟨p, xs, rfl, Same.seqT (msk_same _ _) hs, by rw [← hr.length]; exact hl, ?_⟩
  exact h ls σ H xs s0 sr (RReps.ofD hr) Qs k
/-- a, b = e -/
theorem W1.asg (h : E X F e (fun o r => Tg X F tg r P.nx o ρ) own ρ) (hs : swapsWithSole [tg] e pos.line X.env = pure false := by rfl) (hw : swappedStores [tg] e X.env = pure none := by rfl)
    (h1 : (assignEach [tg] X.env).map (·.2) = [assign tg X.env] := by rfl) : W1 X F (.Assign [tg] e pos) P own ρ := by
  constructor
  intro ls σ H s0 sr De k
  refine (ps_asg pe_we pg_w hs hw h1).to ?_
  refine h ls σ H s0 sr _ fun ls1 own1 H1 r v l1 s1 rr q => ?_
  exact q ls1 σ H1 v s1 (sr.up l1.pre l1.same) rr _ fun _ _ _ ρ' σ' l s r q => k.nx _ _ _ _ _ (l1.trans l) s r q

/-! ### loops -/
/-- a loop's state -/
def Pv (X : Cx) (F : Fm) (ls : List Addr) (own : List Cell) (H : Hp) (I : Nat → List Cell → Ro → Prop) (i : Nat) (σ : L2.St) (H' : Hp) : Prop :=
  ∃ ls' own' ρ', Le F ls own H ls' own' H' ∧ St0 X.K F ls' own' H' ∧ SRep X.K ls' (F.g ls' own' H') ρ' σ ∧ I i own' ρ'
theorem for_gen {K : PySem.W.Frag} {a : Addr} {n : Nat} {g : TG} {tb : TS} {De : Ends} {σ : L2.St} {H : Hp} (Pv : Nat → L2.St → Hp → Prop) (h0 : Pv 0 σ H) (hl : ∀ i σ H, Pv i σ H → ∃ xs, SqL K H a xs ∧ xs.length = n)
    (hs : ∀ i x σ H xs, i < n → SqL K H a xs → xs[i]? = some x → (∀ ys, SqL K H a ys → ys[i]? = some x) → Pv i σ H → g x σ H fun σ2 H2 => tb { De with nx := Pv (i + 1), ct := Pv (i + 1), bk := De.nx } σ2 H2) (hd : ∀ σ H, Pv n σ H → De.nx σ H) :
    ∃ W : Nat → Nat → L2.St → Hp → Prop, (∃ m, W 0 m σ H) ∧ ∀ i m σ H, W i m σ H →
      ((Itl K a).stop i H ∧ De.nx σ H) ∨ ((Itl K a).go i H ∧ ∃ N : L2.St → Hp → Prop, (∀ σ' H', N σ' H' → ∃ m', m' < m ∧ W (i + 1) m' σ' H') ∧ ∀ x H', (Itl K a).yld i H x H' → g x σ H' fun σ2 H2 => tb { De with nx := N, ct := N, bk := De.nx } σ2 H2) := by
  refine ⟨fun i m σ H => m = n - i ∧ i ≤ n ∧ Pv i σ H, ⟨n, by simp, Nat.zero_le _, h0⟩, ?_⟩
  rintro i m σ H ⟨rfl, hi, p⟩
  obtain ⟨xs, q, ln⟩ := hl i σ H p
  by_cases hlt : i < n
  · refine .inr ⟨⟨xs, xs[i]'(by rw [ln]; exact hlt), q, by simp [ln, hlt]⟩, Pv (i + 1), fun σ' H' p' => ⟨n - (i + 1), by omega, rfl, hlt, p'⟩, fun x H' y => ?_⟩
    obtain ⟨e, y⟩ := y
    subst e
    exact hs i x σ _ xs hlt q (y xs q) y p
  · have e : i = n := by omega
    subst e
    exact .inl ⟨⟨xs, q, by rw [ln]; exact Nat.le_refl _⟩, hd σ H p⟩
/-- for x in a list that stands still -/
theorem W1.forL (I : Nat → List Cell → Ro → Prop) (hc : X.calm = true) (hp : PassesOwn (model X.prog X.w) X.A X.env X.xe)
    (h : E X F iter (fun o r => ∃ ds, (r = .d (.lst ds) ∨ r = .d (.rol ds)) ∧ I 0 o ρ ∧ (∀ i d o' ρ', ds[i]? = some d → I i o' ρ' → Tg X F tg (.d d) (fun o2 ρ2 => W X F body { nx := I (i + 1), rt := P.rt, bk := P.nx, ct := I (i + 1) } o2 ρ2) o' ρ') ∧ ∀ o' ρ', I ds.length o' ρ' → P.nx o' ρ') own ρ)
    (hs : ∀ x, foldedSetIterable iter X.env x = pure x := by intro _; rfl) : W1 X F (.For tg iter body [] pos) P own ρ := by
  constructor
  intro ls σ H s0 sr De k
  refine (ps_for hp hc (pi_list pe_we) pg_w pss_ws hs).to ?_
  refine h ls σ H s0 sr _ fun ls1 own1 H1 r v l1 s1 rr ⟨ds, er, i0, turn, fin⟩ => ?_
  obtain ⟨p, xs, rfl, hq, hr⟩ : ∃ p xs, v = .ref p ∧ SqL X.K (F.g ls1 own1 H1) p xs ∧ Reps X.K (F.g ls1 own1 H1) ds xs := by
    rcases er with rfl | rfl
    · obtain ⟨p, xs, e, g1, g2⟩ := lst_rr rr
      exact ⟨p, xs, e, .inl (.inl g1), g2⟩
    · simpa only [RRep, Rep] using rr
  refine ⟨p, rfl, ⟨xs, (msk_same _ _).seq hq⟩, ?_⟩
  refine for_gen (n := ds.length) (Pv X F ls1 own1 H1 I) ⟨ls1, own1, ρ, Le.refl, s1, sr.up l1.pre l1.same, i0⟩ (fun i σ' H' ⟨_, _, _, l, _⟩ => ⟨xs, (msk_same _ _).seq (l.same.seq hq), hr.length.symm⟩) ?_ ?_
  · rintro i x σ' H' _ hi _ _ hall ⟨ls2, own2, ρ2, l2, s2, sr2, ii⟩
    have hx := hall xs ((msk_same _ _).seq (l2.same.seq hq))
    have hdi : ds[i]? = some ds[i] := List.getElem?_eq_getElem hi
    obtain ⟨y, e1, e2⟩ := hr.get hdi
    rw [hx] at e1
    cases e1
    refine turn i _ own2 ρ2 hdi ii ls2 σ' H' x s2 sr2 (Rep.mono l2.same e2) _ fun ls3 own3 H3 ρ3 σ3 l3 s3 sr3 q => ?_
    exact q ls3 σ3 H3 s3 sr3 _ ⟨fun _ _ _ _ _ l s r q => ⟨_, _, _, (l2.trans l3).trans l, s, r, q⟩, fun _ _ _ _ _ l s r q => k.rt _ _ _ _ _ (l1.trans ((l2.trans l3).trans l)) s r q, fun _ _ _ _ _ l s r q => k.nx _ _ _ _ _ (l1.trans ((l2.trans l3).trans l)) s r q, fun _ _ _ _ _ l s r q => ⟨_, _, _, (l2.trans l3).trans l, s, r, q⟩⟩
  · rintro σ' H' ⟨ls2, own2, ρ2, l2, s2, sr2, ii⟩
    exact k.nx _ _ _ _ _ (l1.trans l2) s2 sr2 (fin _ _ ii)
/-- for x in a cell that the loop leaves as it is -/
theorem W1.forC (I : Nat → List Cell → Ro → Prop) (hc : X.calm = true) (hp : PassesOwn (model X.prog X.w) X.A X.env X.xe)
    (h : E X F iter (fun o r => ∃ n rs, r = .c n ∧ o[n]? = some (.lst rs) ∧ I 0 o ρ ∧ (∀ i o' ρ', I i o' ρ' → o'[n]? = some (.lst rs)) ∧ (∀ i d o' ρ', rs[i]? = some d → I i o' ρ' → Tg X F tg d (fun o2 ρ2 => W X F body { nx := I (i + 1), rt := P.rt, bk := P.nx, ct := I (i + 1) } o2 ρ2) o' ρ') ∧ ∀ o' ρ', I rs.length o' ρ' → P.nx o' ρ') own ρ)
    (hs : ∀ x, foldedSetIterable iter X.env x = pure x := by intro _; rfl) : W1 X F (.For tg iter body [] pos) P own ρ := by
  constructor
  intro ls σ H s0 sr De k
  refine (ps_for hp hc (pi_list pe_we) pg_w pss_ws hs).to ?_
  refine h ls σ H s0 sr _ fun ls1 own1 H1 r v l1 s1 rr ⟨n, rs, er, hcell, i0, stay, turn, fin⟩ => ?_
  subst er
  obtain ⟨p, hl, rfl⟩ := rr
  obtain ⟨xs, g1, g2⟩ := s1.at_ n p _ hl hcell
  refine ⟨p, rfl, ⟨xs, .inl (.inl g1)⟩, ?_⟩
  refine for_gen (n := rs.length) (Pv X F ls1 own1 H1 I) ⟨ls1, own1, ρ, Le.refl, s1, sr.up l1.pre l1.same, i0⟩ (fun i σ' H' ⟨ls2, own2, _, l, s2, _, ii⟩ => ?_) ?_ ?_
  · obtain ⟨ys, e1, e2⟩ := s2.at_ n p _ (pre_get l.pre hl) (stay _ _ _ ii)
    exact ⟨ys, .inl (.inl e1), e2.length'.symm⟩
  · rintro i x σ' H' _ hi _ _ hall ⟨ls2, own2, ρ2, l2, s2, sr2, ii⟩
    obtain ⟨ys, f1, f2⟩ := s2.at_ n p _ (pre_get l2.pre hl) (stay _ _ _ ii)
    have hx := hall ys (.inl (.inl f1))
    have hdi : rs[i]? = some rs[i] := List.getElem?_eq_getElem hi
    obtain ⟨y, e1, e2⟩ := f2.get' hdi
    rw [hx] at e1
    cases e1
    refine turn i _ own2 ρ2 hdi ii ls2 σ' H' x s2 sr2 e2 _ fun ls3 own3 H3 ρ3 σ3 l3 s3 sr3 q => ?_
    exact q ls3 σ3 H3 s3 sr3 _ ⟨fun _ _ _ _ _ l s r q => ⟨_, _, _, (l2.trans l3).trans l, s, r, q⟩, fun _ _ _ _ _ l s r q => k.rt _ _ _ _ _ (l1.trans ((l2.trans l3).trans l)) s r q, fun _ _ _ _ _ l s r q => k.nx _ _ _ _ _ (l1.trans ((l2.trans l3).trans l)) s r q, fun _ _ _ _ _ l s r q => ⟨_, _, _, (l2.trans l3).trans l, s, r, q⟩⟩
  · rintro σ' H' ⟨ls2, own2, ρ2, l2, s2, sr2, ii⟩
    exact k.nx _ _ _ _ _ (l1.trans l2) s2 sr2 (fin _ _ ii)
/-- for x in a tuple -/
theorem W1.forT (I : Nat → List Cell → Ro → Prop) (hc : X.calm = true) (hp : PassesOwn (model X.prog X.w) X.A X.env X.xe)
    (h : E X F iter (fun o r => ∃ ds, r = .d (.tup ds) ∧ I 0 o ρ ∧ (∀ i d o' ρ', ds[i]? = some d → I i o' ρ' → Tg X F tg (.d d) (fun o2 ρ2 => W X F body { nx := I (i + 1), rt := P.rt, bk := P.nx, ct := I (i + 1) } o2 ρ2) o' ρ') ∧ ∀ o' ρ', I ds.length o' ρ' → P.nx o' ρ') own ρ)
    (hs : ∀ x, foldedSetIterable iter X.env x = pure x := by intro _; rfl) : W1 X F (.For tg iter body [] pos) P own ρ := by
  constructor
  intro ls σ H s0 sr De k
  refine (ps_for hp hc (pi_tup pe_we) pg_w pss_ws hs).to ?_
  refine h ls σ H s0 sr _ fun ls1 own1 H1 r v l1 s1 rr ⟨ds, er, i0, turn, fin⟩ => ?_
  subst er
  obtain ⟨p, xs, rfl, hq, hr⟩ := tup_rr rr
  refine ⟨p, rfl, ⟨xs, Same.seqT (msk_same _ _) hq⟩, ?_⟩
  refine for_tup (xs := xs) (Pv X F ls1 own1 H1 I) ⟨ls1, own1, ρ, Le.refl, s1, sr.up l1.pre l1.same, i0⟩ (fun i σ' H' _ ⟨_, _, _, l, _⟩ => Same.seqT (msk_same _ _) (Same.seqT l.same hq)) ?_ ?_
  · rintro i x σ' H' hx ⟨ls2, own2, ρ2, l2, s2, sr2, ii⟩
    have hi : i < ds.length := by rw [hr.length]; exact (List.getElem?_eq_some_iff.mp hx).1
    have hdi : ds[i]? = some ds[i] := List.getElem?_eq_getElem hi
    obtain ⟨y, e1, e2⟩ := hr.get hdi
    rw [hx] at e1
    cases e1
    refine turn i _ own2 ρ2 hdi ii ls2 σ' H' x s2 sr2 (Rep.mono l2.same e2) _ fun ls3 own3 H3 ρ3 σ3 l3 s3 sr3 q => ?_
    exact q ls3 σ3 H3 s3 sr3 _ ⟨fun _ _ _ _ _ l s r q => ⟨_, _, _, (l2.trans l3).trans l, s, r, q⟩, fun _ _ _ _ _ l s r q => k.rt _ _ _ _ _ (l1.trans ((l2.trans l3).trans l)) s r q, fun _ _ _ _ _ l s r q => k.nx _ _ _ _ _ (l1.trans ((l2.trans l3).trans l)) s r q, fun _ _ _ _ _ l s r q => ⟨_, _, _, (l2.trans l3).trans l, s, r, q⟩⟩
  · rintro σ' H' ⟨ls2, own2, ρ2, l2, s2, sr2, ii⟩
    rw [← hr.length] at ii
    exact k.nx _ _ _ _ _ (l1.trans l2) s2 sr2 (fin _ _ ii)
/-- for x in range(n) -/
theorem W1.forR {a : Expr} {p0 p1 : Pos} (I : Nat → List Cell → Ro → Prop) (hm : X.mg "range" = none) (hc : X.calm = true) (hp : PassesOwn (model X.prog X.w) X.A X.env X.xe)
    (h : E X F a (fun o r => ∃ m : Int, r = .d (.int m) ∧ (-(2 ^ 62) ≤ m ∧ m < 2 ^ 62) ∧ I 0 o ρ ∧ (∀ i o' ρ', i < m.toNat → I i o' ρ' → Tg X F tg (.d (.int (i : Int))) (fun o2 ρ2 => W X F body { nx := I (i + 1), rt := P.rt, bk := P.nx, ct := I (i + 1) } o2 ρ2) o' ρ') ∧ ∀ o' ρ', I m.toNat o' ρ' → P.nx o' ρ') own ρ)
    (hg : Gl X "range" := by rfl) (hst : starEach [a] X.env = [(false, eval a X.env)] := by rfl) (hs : ∀ x, foldedSetIterable (.Call (.Name "range" p0) [a] [] p1) X.env x = pure x := by intro _; rfl) : W1 X F (.For tg (.Call (.Name "range" p0) [a] [] p1) body [] pos) P own ρ := by
  constructor
  intro ls σ H s0 sr De k
  refine (ps_for hp hc (pi_range1 hg hm (pa_cons pe_we pa_nil hst) hst) pg_w pss_ws hs).to ?_
  refine h ls σ H s0 sr _ fun ls1 own1 H1 r v l1 s1 rr ⟨m, er, hb, i0, turn, fin⟩ => ?_
  subst er
  cases rr_int rr
  refine ⟨m, rfl, hb.1, hb.2, ?_⟩
  refine for_range (lo := 0) (n := m.toNat) (Pv X F ls1 own1 H1 I) ⟨ls1, own1, ρ, Le.refl, s1, sr.up l1.pre l1.same, i0⟩ ?_ ?_
  · rintro i σ' H' hi ⟨ls2, own2, ρ2, l2, s2, sr2, ii⟩
    rw [Int.zero_add]
    refine turn i own2 ρ2 hi ii ls2 σ' H' _ s2 sr2 ir_int _ fun ls3 own3 H3 ρ3 σ3 l3 s3 sr3 q => ?_
    exact q ls3 σ3 H3 s3 sr3 _ ⟨fun _ _ _ _ _ l s r q => ⟨_, _, _, (l2.trans l3).trans l, s, r, q⟩, fun _ _ _ _ _ l s r q => k.rt _ _ _ _ _ (l1.trans ((l2.trans l3).trans l)) s r q, fun _ _ _ _ _ l s r q => k.nx _ _ _ _ _ (l1.trans ((l2.trans l3).trans l)) s r q, fun _ _ _ _ _ l s r q => ⟨_, _, _, (l2.trans l3).trans l, s, r, q⟩⟩
  · rintro σ' H' ⟨ls2, own2, ρ2, l2, s2, sr2, ii⟩
    exact k.nx _ _ _ _ _ (l1.trans l2) s2 sr2 (fin _ _ ii)
/-- while -/
theorem W1.while {c : Expr} (I : List Cell → Ro → Prop) (μ : List Cell → Ro → Nat) (hp : PassesOwn (model X.prog X.w) X.A X.env X.xe) (h0 : I own ρ)
    (turn : ∀ o r, I o r → T X F c (fun o2 k => if k = true then W X F body { nx := fun o3 r3 => I o3 r3 ∧ μ o3 r3 < μ o r, rt := P.rt, bk := P.nx, ct := fun o3 r3 => I o3 r3 ∧ μ o3 r3 < μ o r } o2 r else P.nx o2 r) o r) : W1 X F (.While c body [] pos) P own ρ := by
  constructor
  intro ls σ H s0 sr De k
  refine (ps_while hp pt_wt pss_ws).to ?_
  refine ⟨fun m σ' H' => ∃ ls' own' ρ', Le F ls own H ls' own' H' ∧ St0 X.K F ls' own' H' ∧ SRep X.K ls' (F.g ls' own' H') ρ' σ' ∧ I own' ρ' ∧ m = μ own' ρ', ⟨_, ls, own, ρ, Le.refl, s0, sr, h0, rfl⟩, ?_⟩
  rintro m σ' H' ⟨ls1, own1, ρ1, l1, s1, sr1, i1, rfl⟩
  refine turn own1 ρ1 i1 ls1 σ' H' s1 sr1 _ fun ls2 own2 H2 b l2 s2 q => ?_
  cases b with
  | false => exact iteF (k.nx _ _ _ _ _ (l1.trans l2) s2 (sr1.up l2.pre l2.same) q)
  | true =>
    refine iteT ⟨fun σ3 H3 => ∃ ls' own' ρ', Le F ls own H ls' own' H3 ∧ St0 X.K F ls' own' H3 ∧ SRep X.K ls' (F.g ls' own' H3) ρ' σ3 ∧ I own' ρ' ∧ μ own' ρ' < μ own1 ρ1, fun σ3 H3 ⟨a, b, c, d, e, f, g, i⟩ => ⟨_, i, a, b, c, d, e, f, g, rfl⟩, ?_⟩
    exact (show W X F body _ own2 ρ1 from q) ls2 σ' H2 s2 (sr1.up l2.pre l2.same) _ ⟨fun _ _ _ _ _ l s r q => ⟨_, _, _, (l1.trans l2).trans l, s, r, q.1, q.2⟩, fun _ _ _ _ _ l s r q => k.rt _ _ _ _ _ ((l1.trans l2).trans l) s r q, fun _ _ _ _ _ l s r q => k.nx _ _ _ _ _ ((l1.trans l2).trans l) s r q, fun _ _ _ _ _ l s r q => ⟨_, _, _, (l1.trans l2).trans l, s, r, q.1, q.2⟩⟩
end
end DL

/-! ### operators of classes of the text, at the library's level -/
namespace DL.Own
open PySem PySem.W PySem.Calls PyProof.Rows
section
variable {prog : Program} {w : World} {A : Around} {E : Value → Shared → Prop} {s : Shared} {K : Frag} {x C L f : Addr} {h₀ : Heap} {m : Str → Option Value} {od : Option Obj} {dx : Addr} {i : Int} {t : Tok}
/-- what a built-in says of an instance: it does not know it -/
def Decl (prog : Program) (w : World) (B : Builtin) (i : Int) (t : Tok) (x : Addr) (C dx : Addr) : Prop := ∀ (A : Around) (s : Shared) (Q : Fin → Shared → Prop) (E : Value → Shared → Prop), s.heap.get? x = some (instObj C dx) → Q (.done (.ret .notImplemented)) s → wpAny (model prog w) A (B ⟨[.int i t, .ref x], []⟩) Q E s
theorem decl_bin {name : String} {fn : Int → Int → Sem Fin} : Decl prog w (Builtin.Int.intBinary name fn false) i t x C dx := by
  intro A s Q E ho h
  unfold Builtin.Int.intBinary
  refine wpAny_bind (m := slotArgs name 1 _) (wpAny_pure ?_)
  refine wpAny_bind (m := Builtin.Int.intOfSelf _) (wpAny_pure ?_)
  refine wpAny_bind (m := asInt? _) (wpAny_bind (wpAny_load ho (wpAny_pure ?_)))
  refine wpAny_bind (wpAny_rule (wpAny_pure h))
theorem decl_add : Decl prog w Builtin.«int.__add__» i t x C dx := decl_bin
theorem decl_sub : Decl prog w Builtin.«int.__sub__» i t x C dx := decl_bin
theorem decl_mul : Decl prog w Builtin.«int.__mul__» i t x C dx := decl_bin
theorem decl_eq : Decl prog w Builtin.«int.__eq__» i t x C dx := decl_bin
/-- an int's operator over an instance declines -/
theorem int_declines {nm idl : String} {B : Builtin} {Q : Option Value → Shared → Prop} (ho : s.heap.get? x = some (instObj C dx)) (slot : Slot "int" (PySem.dunder nm) idl) (entry : entryFor table idl = some B) (args : argsOk idl ⟨[.int i t, .ref x], []⟩) (g : Decl prog w B i t x C dx) (h : Q none s) :
    wpAny (model prog w) A (tryMethod (.int i t) (PySem.dunder nm) (.ref x)) Q E s := by
  refine wpAny_tryMethod_declines (typeIs_int s i t) slot ?_
  refine wpAny_call (codeAny_call_builtin slot.plain entry (slot.check _ _ _ _ _ _ _ _ (typeIs_int s i t) args ?_))
  exact g _ _ _ _ ho ⟨rfl, h⟩
set_option maxHeartbeats 2000000 in
theorem rbin_K {op : Operator} {idl : String} {B : Builtin} {g0 : Addr} {Q : Value → Shared → Prop} (F : Fr h₀ L s.heap m) (X₀ : K.In h₀) (I : InstAt s.heap x (instObj C dx) C od) (hc : selfFirst K C = true)
    (h0 : findIn K (.ref C) (PySem.dunder op.info.2) = some (some (.ref g0))) (hs : findIn K (.ref C) (dunderR op.info.2) = some (some (.ref f))) (hf : isFn K (.ref f) = true)
    (hfill : fillsNumberSlot (.type "int") op.info.2 = pure true) (slot : Slot "int" (PySem.dunder op.info.2) idl) (entry : entryFor table idl = some B) (args : argsOk idl ⟨[.int i t, .ref x], []⟩) (dc : Decl prog w B i t x C dx)
    (hsub : subIn K (.ref C) (.type "int") = some false)
    (h : wpAny (model prog w) A (call (.ref f) [.ref x, .int i t]) (PySem.W.CmpBack Q) E s) : wpAny (model prog w) A (binaryOp op (.int i t) (.ref x)) Q E s := by
  have X := X₀.keeps F.keep
  obtain ⟨cd, rest, hcd, hm⟩ := ksp_first hc
  rcases hi : op.info with ⟨sym, nm'⟩
  rw [hi] at h0 hs hfill slot
  dsimp only at h0 hs hfill slot
  have one := ksp_try X I hs hf h
  have two : ∀ {Q' : Option Value → Shared → Prop}, Q' none s → wpAny (model prog w) A (tryMethod (.int i t) (PySem.dunder nm') (.ref x)) Q' E s := fun q => int_declines I.at_ slot entry args dc q
  obtain ⟨hh, g, d, tt, os⟩ := s
  have L1 : Looks (model prog w) hh (typeOf (.ref x)) (.ref C) := I.type
  have L2 : Looks (model prog w) hh (typeOf (.int i t)) (.type "int") := Looks.of_pure rfl
  have L3 : Looks (model prog w) hh (fillsNumberSlot (.ref C) nm') true := fills_K X hcd hm h0
  have L4 : Looks (model prog w) hh (fillsNumberSlot (.type "int") nm') true := Looks.of_pure hfill
  have L5 : Looks (model prog w) hh (isSubtype (.ref C) (.type "int")) false := looks_subIn X hsub
  have L7 : Looks (model prog w) hh (numberSlotInPython (.type "int") nm') false := Looks.of_pure rfl
  have hne : (Value.type "int" == Value.ref C) = false := Bool.eq_false_iff.mpr fun q => by cases beq_iff_eq.mp q
  simp only [binaryOp, hi]
  refine wpAny_holding (wpAny_bind ?_)
  unfold binaryOp1
  refine wpAny_bind (L2.at (wpAny_bind (L1.at (wpAny_bind (L4.at ?_)))))
  simp only [hne, Bool.false_eq_true, if_false]
  ksp_lk
  refine two ?_
  ksp_lk
  refine wpAny_mono one (fun r s' hr' => ?_) fun _ _ e => e
  obtain ⟨v, rfl, hq⟩ := hr'
  ksp_lk
  exact hq
set_option maxHeartbeats 2000000 in
/-- int == instance: the instance's own == -/
theorem req_K {Q : Value → Shared → Prop} (hu : A.units < cLine) (F : Fr h₀ L s.heap m) (X₀ : K.In h₀) (I : InstAt s.heap x (instObj C dx) C od) (hs : findIn K (.ref C) "__eq__" = some (some (.ref f))) (hf : isFn K (.ref f) = true) (hsub : subIn K (.ref C) (.type "int") = some false)
    (h : wpAny (model prog w) A (call (.ref f) [.ref x, .int i t]) (PySem.W.CmpBack Q) E s) : wpAny (model prog w) A (richCompare .Eq (.int i t) (.ref x)) Q E s := by
  have X := X₀.keeps F.keep
  have one : wpAny (model prog w) A (tryCompare (.ref x) "__eq__" (.int i t)) (fun r s' => ∃ v, r = some v ∧ Q v s') E s := by
    unfold tryCompare
    refine wpAny_bind (ifBound_K X I hs hf (wpAny_mono h (fun v s' hv => ?_) fun _ _ e => e))
    cases v <;> first | exact hv.elim | exact wpAny_pure ⟨_, rfl, hv⟩
  have two : ∀ {Q' : Option Value → Shared → Prop}, Q' none s → wpAny (model prog w) A (tryCompare (.int i t) "__eq__" (.ref x)) Q' E s := fun {Q'} q => by
    unfold tryCompare
    refine wpAny_bind (wpAny_callSpecialIfBound?_slot (typeIs_int s i t) PySem.F.slot_int_eq (wpAny_call (codeAny_call_builtin PySem.F.slot_int_eq.plain PySem.F.entry_int_eq (PySem.F.slot_int_eq.check _ _ _ _ _ _ _ _ (typeIs_int s i t) (PySem.F.args_int_eq_2 _ _) ?_))))
    exact decl_eq _ _ _ _ I.at_ (wpAny_pure q)
  unfold richCompare
  refine wpAny_holding (wpAny_bind (wpAny_cRoomFor hu ?_))
  have eo : oneThing? .Eq (.int i t) (.ref x) = none := by rfl
  rw [eo]
  have hne : (Value.type "int" != Value.ref C) = true := by
    rw [bne, Bool.not_eq_true']
    exact Bool.eq_false_iff.mpr fun q => by cases beq_iff_eq.mp q
  have L1 : Looks (model prog w) s.heap (typeOf (.ref x)) (.ref C) := I.type
  have L2 : Looks (model prog w) s.heap (typeOf (.int i t)) (.type "int") := Looks.of_pure rfl
  refine wpAny_bind (L2.here (wpAny_bind (L1.here ?_)))
  rw [hne]
  simp only [if_true]
  refine wpAny_bind ((looks_subIn X hsub).here ?_)
  simp only [Bool.false_eq_true, if_false, Bool.not_false, if_true]
  refine wpAny_bind (two ?_)
  refine wpAny_bind (wpAny_mono one (fun r s' z => ?_) fun _ _ e => e)
  obtain ⟨v, rfl, hq⟩ := z
  exact wpAny_pure hq
set_option maxHeartbeats 2000000 in
/-- instance != anything, by object's own __ne__: not the instance's own == -/
theorem rne_K {b tb : Value} {Q : Value → Shared → Prop} (hu : A.units + 1 < cLine) (F : Fr h₀ L s.heap m) (X₀ : K.In h₀) (I : InstAt s.heap x (instObj C dx) C od) (hb : Looks (model prog w) s.heap (typeOf b) tb) (hn : notFirst K C tb = true)
    (hs : findIn K (.ref C) "__eq__" = some (some (.ref f))) (hne : findIn K (.ref C) "__ne__" = some (some (.builtin "object.__ne__"))) (hf : isFn K (.ref f) = true) (hobj : subIn K (.ref C) (.type "object") = some true)
    (h : wpAny (model prog w) A.in1 (call (.ref f) [.ref x, b]) (fun v s' => ∃ r, v = .bool r ∧ Q (.bool (!r)) s') E s) : wpAny (model prog w) A (richCompare .NotEq (.ref x) b) Q E s := by
  have X := X₀.keeps F.keep
  have L1 : Looks (model prog w) s.heap (typeOf (.ref x)) (.ref C) := I.type
  have body : ∀ {Q' : Fin → Shared → Prop} {E' : Value → Shared → Prop}, wpAny (model prog w) A.in1 (call (.ref f) [.ref x, b]) (fun v s' => ∃ r, v = .bool r ∧ Q' (.done (.ret (.bool (!r)))) s') E' s → wpAny (model prog w) A.in1 (Builtin.«object.__ne__» ⟨[.ref x, b], []⟩) Q' E' s := fun {Q' E'} h => by
    unfold Builtin.«object.__ne__»
    refine wpAny_bind (m := slotArgs "__ne__" 1 _) (wpAny_pure ?_)
    refine wpAny_bind (wpAny_cRoomFor hu ?_)
    refine wpAny_bind (ifBound_K X I hs hf (wpAny_mono h (fun v s' hv => ?_) fun _ _ e => e))
    obtain ⟨r, rfl, hq⟩ := hv
    refine wpAny_bind (m := truthy (.bool r)) (wpAny_truthy_bool ?_)
    exact wpAny_pure hq
  have one : wpAny (model prog w) A (tryCompare (.ref x) "__ne__" b) (fun r s' => ∃ v, r = some v ∧ Q v s') E s := by
    unfold tryCompare
    refine wpAny_bind ?_
    simp only [callSpecialIfBound?, bindSpecialIfBound?]
    refine wpAny_holding (wpAny_bind (wpAny_bind (wpAny_bind (L1.here ((looks_findIn X hne).here ?_)))))
    have hbind : bindSpecial (.builtin "object.__ne__") (.ref x) = pure (.builtin "object.__ne__", [.ref x]) := by with_unfolding_all rfl
    simp only [hbind]
    have fin : wpAny (model prog w) A (call (.builtin "object.__ne__") ([.ref x] ++ [b]) >>= fun v => pure (some v)) (fun r s' => wpAny (model prog w) A (match r with | some .notImplemented | none => pure none | some v => pure (some v)) (fun r s' => ∃ v, r = some v ∧ Q v s') E s') E s := by
      refine wpAny_bind (wpAny_call (codeAny_call_builtin (by with_unfolding_all decide +kernel) PySem.F.cmpEntry_ne (check_slot PySem.F.cmpKind_ne PySem.F.cmpSplit_ne (L1.andThen (looks_subIn X hobj)) (PySem.F.cmpArgs_ne _ _) ?_)))
      refine body (wpAny_mono h (fun v s' hv => ?_) fun _ _ e => e)
      obtain ⟨r, rfl, hq⟩ := hv
      exact ⟨r, rfl, wpAny_pure (wpAny_pure ⟨_, rfl, hq⟩)⟩
    refine wpAny_bind (wpAny_askSetting (wpAny_ite ?_))
    split
    · exact wpAny_bind (wpAny_pure (wpAny_pure (by exact fin)))
    · exact wpAny_tryCatch (wpAny_bind (wpAny_pure (wpAny_pure (by exact fin))))
  unfold richCompare
  simp only [oneThing_ref]
  refine wpAny_holding (wpAny_bind (wpAny_cRoomFor (Nat.lt_of_succ_lt hu) ?_))
  refine wpAny_bind (L1.here (wpAny_bind (hb.here ?_)))
  split
  · rename_i q
    have e : subIn K tb (.ref C) = some false := by
      rcases Bool.or_eq_true_iff.mp hn with e | e
      · rw [beq_iff_eq.mp e] at q; simp at q
      · exact beq_iff_eq.mp e
    refine wpAny_bind ((looks_subIn X e).here ?_)
    simp only [Bool.false_eq_true, if_false]
    refine wpAny_bind (wpAny_mono one (fun r s' z => ?_) fun _ _ e => e)
    obtain ⟨v, rfl, hq⟩ := z
    exact wpAny_pure hq
  · refine wpAny_bind (wpAny_pure ?_)
    simp only [Bool.false_eq_true, if_false]
    refine wpAny_bind (wpAny_mono one (fun r s' z => ?_) fun _ _ e => e)
    obtain ⟨v, rfl, hq⟩ := z
    exact wpAny_pure hq
/-- abs(instance) -/
theorem abs_K {Q : Value → Shared → Prop} (F : Fr h₀ L s.heap m) (X₀ : K.In h₀) (I : InstAt s.heap x (instObj C dx) C od) (hs : findIn K (.ref C) "__abs__" = some (some (.ref f))) (hf : isFn K (.ref f) = true)
    (h : wpAny (model prog w) A.in1 (call (.ref f) [.ref x]) Q E s) : wpAny (model prog w) A (call (.builtin "abs") [.ref x]) Q E s := by
  refine Calls.call_function_entry kind_abs plain_abs entry_abs (args_abs _) ?_
  unfold Builtin.«abs»
  refine wpAny_bind (m := oneArg "abs" _) (wpAny_pure ?_)
  refine wpAny_bind (m := callSpecial? (.ref x) (Str.ofString "__abs__")) (special_fn (X₀.keeps F.keep) I hs (beq_iff_eq.mp hf) (wpAny_mono h (fun r s' hr => ?_) fun _ _ y => y))
  exact wpAny_pure ⟨_, rfl, hr⟩
end
end DL.Own

namespace DL
open PySem PySem.Spec PyProof.Rows L2
/-! ### operators of classes of the text, over data -/
section
variable {X : Cx} {F : Fm} {own : List Cell} {ρ : Ro} {Q : QE} {QT : QT} {k : Nat} {f C : Addr} {fd : FuncData} {ps : List Str} {pre : List D → Prop} {post : List D → D → Prop} {i : Int}
/-- a def runs below the body -/
theorem run_at {A : Around} {pins : List (Addr × Obj)} {σ : L2.St} {H : Hp} {s : Shared} {Qv : VK} {us : List Value} {vs : List V} {sp : Sp} (G : FnOk X.prog X.w X.K X.mg X.base CX0 k f fd ps sp) (hfr : A.frames = X.A.frames) (hr : Room k A) (hb : Binds X.K fd ps []) (I : Inv X pins σ H s) (r : Vals vs us) (h : sp vs H Qv E0) :
    wpAny (model X.prog X.w) A (call (.ref f) us) (EP X pins σ Qv) X.xe s := by
  have e0 : Env0 X.prog X.w X.K X.mg X.base A X.stack s H := by
    have e := I.env0
    exact ⟨by rw [hfr]; exact e.frames, e.mod, e.bs, e.bsz, e.funs, e.frf, e.hok, e.bare⟩
  have hl : us.length = ps.length := by rw [← r.length]; exact G.len _ _ _ _ h
  refine wpAny_call (codeAny_mono (G.run A X.stack s H ⟨us, []⟩ us vs Qv E0 hr e0 (by
    have := hb s us I.kIn (by simpa using hl)
    simpa using this) r h) fun r s' hq => ?_)
  cases r with
  | error e => exact hq.elim
  | ok fl =>
    cases fl with
    | ret w => exact I.after hq
    | next => exact False.elim hq
    | brk => exact False.elim hq
    | cont => exact False.elim hq
theorem ep_back {pins : List (Addr × Obj)} {σ : L2.St} {Qv : VK} {u : Value} {s : Shared} (h : EP X pins σ Qv u s) : PySem.W.CmpBack (EP X pins σ Qv) u s := by
  obtain ⟨v, H', I, r, q⟩ := h
  cases v with
  | non => cases r; exact ⟨.non, H', I, rfl, q⟩
  | bl b => cases r; exact ⟨.bl b, H', I, rfl, q⟩
  | int i => obtain ⟨t, rfl⟩ := r; exact ⟨.int i, H', I, ⟨t, rfl⟩, q⟩
  | str i => obtain ⟨t, rfl⟩ := r; exact ⟨.str i, H', I, ⟨t, rfl⟩, q⟩
  | byt i => obtain ⟨t, rfl⟩ := r; exact ⟨.byt i, H', I, ⟨t, rfl⟩, q⟩
  | flt i => obtain ⟨t, rfl⟩ := r; exact ⟨.flt i, H', I, ⟨t, rfl⟩, q⟩
  | ref i => cases r; exact ⟨.ref i, H', I, rfl, q⟩
  | ty i => cases r; exact ⟨.ty i, H', I, rfl, q⟩
theorem ins_at {ls own H v ns ds} (st : St0 X.K F ls own H) (rv : RRep X.K ls (F.g ls own H) (.d (.ins C ns ds)) v) : ∃ a dx fs, v = .ref a ∧ H a = some (.ins C dx fs) := by
  obtain ⟨a, dx, xs, rfl, e, _⟩ := ins_rr rv
  exact ⟨a, dx, _, rfl, msk_same _ _ _ _ e⟩
variable {ns ns' : List Str} {ds ds' : List D} {op : Operator}
/-- x op y, both instances of the class -/
theorem O2.ownB (hc : PySem.W.selfFirst X.K C = true) (hs : PySem.W.findIn X.K (.ref C) (PySem.dunder op.info.2) = some (some (.ref f))) (hf : PySem.W.isFn X.K (.ref f) = true) (G : FnOk X.prog X.w X.K X.mg X.base CX0 k f fd ps (spF X.K pre post)) (hr : Room k X.A) (hb : Binds X.K fd ps [])
    (hp : pre [.ins C ns ds, .ins C ns' ds']) (h : ∀ d, post [.ins C ns ds, .ins C ns' ds'] d → Q own (.d d)) : O2 X F (.bin op) (.d (.ins C ns ds)) (.d (.ins C ns' ds')) Q own := by
  constructor
  intro ls H u v st rx ry Qv kk pins σ s uu vv I ru rv
  obtain ⟨a, dx, fs, rfl, ha⟩ := ins_at st rx
  obtain ⟨b, dy, gs, rfl, hb'⟩ := ins_at st ry
  cases ru; cases rv
  obtain ⟨mA, J, _⟩ := ins_get I.hok ha
  obtain ⟨mB, J', _⟩ := ins_get I.hok hb'
  obtain ⟨od, J, _⟩ := J.look
  obtain ⟨od', J', _⟩ := J'.look
  obtain ⟨m, hF⟩ := I.fr
  refine PySem.W.binop_K hF I.ok.mod.kin J J'.type hc hs hf ?_
  exact thn (run_at (vs := [.ref a, .ref b]) G rfl hr hb I (.cons rfl (.cons rfl .nil)) (spF_use st (Reps.cons rx (Reps.cons ry Reps.nil)) hp kk h _)) fun u s q => ep_back q
/-- x op n, an instance and an int -/
theorem O2.ownI {fo ro rc : Option Value} (hc : PySem.W.selfFirst X.K C = true) (hs : PySem.W.findIn X.K (.ref C) (PySem.dunder op.info.2) = some (some (.ref f))) (hf : PySem.W.isFn X.K (.ref f) = true) (hR : PySem.W.findIn X.K (.ref C) (dunderR op.info.2) = some rc) (hP : rc = none ∨ ∃ g : Addr, rc = some (.ref g))
    (h1 : PySem.W.findIn X.K (.type "int") (PySem.dunder op.info.2) = some fo) (h2 : PySem.W.findIn X.K (.type "int") (dunderR op.info.2) = some ro) (hsub : PySem.W.subIn X.K (.type "int") (.ref C) = some false)
    (G : FnOk X.prog X.w X.K X.mg X.base CX0 k f fd ps (spF X.K pre post)) (hr : Room k X.A) (hb : Binds X.K fd ps [])
    (hp : pre [.ins C ns ds, .int i]) (h : ∀ d, post [.ins C ns ds, .int i] d → Q own (.d d)) : O2 X F (.bin op) (.d (.ins C ns ds)) (.d (.int i)) Q own := by
  constructor
  intro ls H u v st rx ry Qv kk pins σ s uu vv I ru rv
  obtain ⟨a, dx, fs, rfl, ha⟩ := ins_at st rx
  cases rr_int ry
  cases ru
  obtain ⟨t, rfl⟩ := rv
  obtain ⟨mA, J, _⟩ := ins_get I.hok ha
  obtain ⟨od, J, _⟩ := J.look
  obtain ⟨m, hF⟩ := I.fr
  refine PySem.W.ksp_binT hF I.ok.mod.kin J rfl hc hs hf hR hP h1 h2 hsub ?_
  exact thn (run_at (vs := [.ref a, .int i]) G rfl hr hb I (.cons rfl (.cons ⟨_, rfl⟩ .nil)) (spF_use st (Reps.cons rx (Reps.cons ry Reps.nil)) hp kk h _)) fun u s q => ep_back q
/-- n op x, an int and an instance -/
theorem O2.ownR {idl : String} {B : Builtin} {g0 : Addr} (hc : PySem.W.selfFirst X.K C = true) (h0 : PySem.W.findIn X.K (.ref C) (PySem.dunder op.info.2) = some (some (.ref g0))) (hs : PySem.W.findIn X.K (.ref C) (dunderR op.info.2) = some (some (.ref f))) (hf : PySem.W.isFn X.K (.ref f) = true)
    (hfill : fillsNumberSlot (.type "int") op.info.2 = pure true) (slot : Slot "int" (PySem.dunder op.info.2) idl) (entry : entryFor table idl = some B) (args : ∀ i t x, argsOk idl ⟨[.int i t, .ref x], []⟩) (dc : ∀ i t x dx, Own.Decl X.prog X.w B i t x C dx)
    (hsub : PySem.W.subIn X.K (.ref C) (.type "int") = some false)
    (G : FnOk X.prog X.w X.K X.mg X.base CX0 k f fd ps (spF X.K pre post)) (hr : Room k X.A) (hb : Binds X.K fd ps [])
    (hp : pre [.ins C ns ds, .int i]) (h : ∀ d, post [.ins C ns ds, .int i] d → Q own (.d d)) : O2 X F (.bin op) (.d (.int i)) (.d (.ins C ns ds)) Q own := by
  constructor
  intro ls H u v st rx ry Qv kk pins σ s uu vv I ru rv
  obtain ⟨a, dx, fs, rfl, ha⟩ := ins_at st ry
  cases rr_int rx
  cases rv
  obtain ⟨t, rfl⟩ := ru
  obtain ⟨mA, J, _⟩ := ins_get I.hok ha
  obtain ⟨od, J, _⟩ := J.look
  obtain ⟨m, hF⟩ := I.fr
  refine Own.rbin_K hF I.ok.mod.kin J hc h0 hs hf hfill slot entry (args _ _ _) (dc _ _ _ _) hsub ?_
  exact thn (run_at (vs := [.ref a, .int i]) G rfl hr hb I (.cons rfl (.cons ⟨_, rfl⟩ .nil)) (spF_use st (Reps.cons ry (Reps.cons rx Reps.nil)) hp kk h _)) fun u s q => ep_back q
/-- -x -/
theorem O1.ownN (hs : PySem.W.findIn X.K (.ref C) "__neg__" = some (some (.ref f))) (hf : PySem.W.isFn X.K (.ref f) = true) (G : FnOk X.prog X.w X.K X.mg X.base CX0 k f fd ps (spF X.K pre post)) (hr : Room k X.A) (hb : Binds X.K fd ps [])
    (hp : pre [.ins C ns ds]) (h : ∀ d, post [.ins C ns ds] d → Q own (.d d)) : O1 X F .USub (.d (.ins C ns ds)) Q own := by
  constructor
  intro ls H u st rx Qv kk pins σ s uu I ru
  obtain ⟨a, dx, fs, rfl, ha⟩ := ins_at st rx
  cases ru
  obtain ⟨mA, J, _⟩ := ins_get I.hok ha
  obtain ⟨od, J, _⟩ := J.look
  obtain ⟨m, hF⟩ := I.fr
  refine PySem.W.ksp_neg hF I.ok.mod.kin J hs hf ?_
  exact run_at (vs := [.ref a]) G rfl hr hb I (.cons rfl .nil) (spF_use st (Reps.cons rx Reps.nil) hp kk h _)
/-- abs(x) -/
theorem Cl.absO (hs : PySem.W.findIn X.K (.ref C) "__abs__" = some (some (.ref f))) (hf : PySem.W.isFn X.K (.ref f) = true) (G : FnOk X.prog X.w X.K X.mg X.base CX0 k f fd ps (spF X.K pre post)) (hr : Room (k + 1) X.A) (hb : Binds X.K fd ps [])
    (hp : pre [.ins C ns ds]) (h : ∀ d, post [.ins C ns ds] d → Q own (.d d)) : Cl X F (.builtin "abs") [.d (.ins C ns ds)] Q own := by
  constructor
  intro ls H vs st rr Qv kk pins σ s us I ru
  obtain ⟨v, rfl, rx⟩ := rrs1 rr
  obtain ⟨a, dx, fs, rfl, ha⟩ := ins_at st rx
  obtain ⟨u, rfl, ru1⟩ := Vals.one ru
  obtain rfl : u = Value.ref a := ru1
  obtain ⟨mA, J, _⟩ := ins_get I.hok ha
  obtain ⟨od, J, _⟩ := J.look
  obtain ⟨m, hF⟩ := I.fr
  refine Own.abs_K hF I.ok.mod.kin J hs hf ?_
  exact run_at (vs := [.ref a]) G rfl hr.in1 hb I (.cons rfl .nil) (spF_use st (Reps.cons rx Reps.nil) hp kk h _)
/-- a truth by __bool__ -/
theorem Tr.ownT (hs : PySem.W.findIn X.K (.ref C) "__bool__" = some (some (.ref f))) (hf : PySem.W.isFn X.K (.ref f) = true) (G : FnOk X.prog X.w X.K X.mg X.base CX0 k f fd ps (spF X.K pre post)) (hr : Room k X.A) (hb : Binds X.K fd ps [])
    (hp : pre [.ins C ns ds]) (h : ∀ d, post [.ins C ns ds] d → ∃ b, d = .bl b ∧ QT own b) : Tr X F (.d (.ins C ns ds)) QT own := by
  constructor
  intro ls H u st rx Qb kk pins σ s uu I ru
  obtain ⟨a, dx, fs, rfl, ha⟩ := ins_at st rx
  cases ru
  obtain ⟨mA, J, _⟩ := ins_get I.hok ha
  obtain ⟨od, J, _⟩ := J.look
  obtain ⟨m, hF⟩ := I.fr
  refine PySem.W.truthy_K hF I.ok.mod.kin J hs hf ?_
  refine thn (run_at (vs := [.ref a]) G rfl hr hb I (.cons rfl .nil) (spF_use (Q := fun o r => ∃ b, r = .d (.bl b) ∧ QT o b) st (Reps.cons rx Reps.nil) hp (Qv := fun v H' => ∃ b, v = .bl b ∧ Qb b H') (fun ls' own' H' r v l s1 rr ⟨b, e, q⟩ => by subst e; exact ⟨b, rr_bl rr, kk _ _ _ b l s1 q⟩) (fun d hd => by obtain ⟨b, rfl, q⟩ := h d hd; exact ⟨b, rfl, q⟩) _)) fun u s q => ?_
  obtain ⟨v, H', I', r, b, rfl, q⟩ := q
  cases r
  exact ⟨H', I', q⟩
/-- bool(x) of such -/
theorem mro_nothing : True := trivial
/-- x == y by __eq__ -/
theorem O2.ownEq {y : D} {tb : Value} (hty : ∀ (ls : List Addr) (own : List Cell) (H : Hp) (v : V) (pins : List (Addr × Obj)) (σ : L2.St) (s : Shared) (u : Value), RRep X.K ls (F.g ls own H) (.d y) v → Inv X pins σ H s → RelV v u → PySem.W.Looks (model X.prog X.w) s.heap (typeOf u) tb) (hn : PySem.W.notFirst X.K C tb = true)
    (hs : PySem.W.findIn X.K (.ref C) "__eq__" = some (some (.ref f))) (hf : PySem.W.isFn X.K (.ref f) = true) (G : FnOk X.prog X.w X.K X.mg X.base CX0 k f fd ps (spF X.K pre post)) (hr : Room k X.A) (hb : Binds X.K fd ps [])
    (hp : pre [.ins C ns ds, y]) (h : ∀ d, post [.ins C ns ds, y] d → Q own (.d d)) : O2 X F (.cmp .Eq) (.d (.ins C ns ds)) (.d y) Q own := by
  constructor
  intro ls H u v st rx ry Qv kk pins σ s uu vv I ru rv
  obtain ⟨a, dx, fs, rfl, ha⟩ := ins_at st rx
  cases ru
  obtain ⟨mA, J, _⟩ := ins_get I.hok ha
  obtain ⟨od, J, _⟩ := J.look
  obtain ⟨m, hF⟩ := I.fr
  show wpAny (model X.prog X.w) X.A (richCompare .Eq (.ref a) vv) (EP X pins σ Qv) X.xe s
  refine PySem.W.cmp_K (op := .Eq) (tb := tb) hr.units0 hF I.ok.mod.kin J (hty _ _ _ _ _ _ _ _ ry I rv) hn hs hf ?_
  exact thn (run_at (vs := [.ref a, v]) G rfl hr hb I (.cons rfl (.cons rv .nil)) (spF_use st (Reps.cons rx (Reps.cons ry Reps.nil)) hp kk h _)) fun u s q => ep_back q
/-- n == x -/
theorem O2.ownEqR (hs : PySem.W.findIn X.K (.ref C) "__eq__" = some (some (.ref f))) (hf : PySem.W.isFn X.K (.ref f) = true) (hsub : PySem.W.subIn X.K (.ref C) (.type "int") = some false) (G : FnOk X.prog X.w X.K X.mg X.base CX0 k f fd ps (spF X.K pre post)) (hr : Room k X.A) (hb : Binds X.K fd ps [])
    (hp : pre [.ins C ns ds, .int i]) (h : ∀ d, post [.ins C ns ds, .int i] d → Q own (.d d)) : O2 X F (.cmp .Eq) (.d (.int i)) (.d (.ins C ns ds)) Q own := by
  constructor
  intro ls H u v st rx ry Qv kk pins σ s uu vv I ru rv
  obtain ⟨a, dx, fs, rfl, ha⟩ := ins_at st ry
  cases rr_int rx
  cases rv
  obtain ⟨t, rfl⟩ := ru
  obtain ⟨mA, J, _⟩ := ins_get I.hok ha
  obtain ⟨od, J, _⟩ := J.look
  obtain ⟨m, hF⟩ := I.fr
  show wpAny (model X.prog X.w) X.A (richCompare .Eq (.int i t) (.ref a)) (EP X pins σ Qv) X.xe s
  refine Own.req_K hr.units0 hF I.ok.mod.kin J hs hf hsub ?_
  exact thn (run_at (vs := [.ref a, .int i]) G rfl hr hb I (.cons rfl (.cons ⟨_, rfl⟩ .nil)) (spF_use st (Reps.cons ry (Reps.cons rx Reps.nil)) hp kk h _)) fun u s q => ep_back q
/-- x != y, where __eq__ stands and no __ne__ -/
theorem O2.ownNe {y : D} {tb : Value} (hty : ∀ (ls : List Addr) (own : List Cell) (H : Hp) (v : V) (pins : List (Addr × Obj)) (σ : L2.St) (s : Shared) (u : Value), RRep X.K ls (F.g ls own H) (.d y) v → Inv X pins σ H s → RelV v u → PySem.W.Looks (model X.prog X.w) s.heap (typeOf u) tb) (hn : PySem.W.notFirst X.K C tb = true)
    (hs : PySem.W.findIn X.K (.ref C) "__eq__" = some (some (.ref f))) (hne : PySem.W.findIn X.K (.ref C) "__ne__" = some (some (.builtin "object.__ne__"))) (hf : PySem.W.isFn X.K (.ref f) = true) (hobj : PySem.W.subIn X.K (.ref C) (.type "object") = some true)
    (G : FnOk X.prog X.w X.K X.mg X.base CX0 k f fd ps (spF X.K pre post)) (hr : Room (k + 1) X.A) (hb : Binds X.K fd ps [])
    (hp : pre [.ins C ns ds, y]) (h : ∀ d, post [.ins C ns ds, y] d → ∃ b, d = .bl b ∧ Q own (.d (.bl (!b)))) : O2 X F (.cmp .NotEq) (.d (.ins C ns ds)) (.d y) Q own := by
  constructor
  intro ls H u v st rx ry Qv kk pins σ s uu vv I ru rv
  obtain ⟨a, dx, fs, rfl, ha⟩ := ins_at st rx
  cases ru
  obtain ⟨mA, J, _⟩ := ins_get I.hok ha
  obtain ⟨od, J, _⟩ := J.look
  obtain ⟨m, hF⟩ := I.fr
  show wpAny (model X.prog X.w) X.A (richCompare .NotEq (.ref a) vv) (EP X pins σ Qv) X.xe s
  refine Own.rne_K (tb := tb) (hu_of hr) hF I.ok.mod.kin J (hty _ _ _ _ _ _ _ _ ry I rv) hn hs hne hf hobj ?_
  refine thn (run_at (vs := [.ref a, v]) G rfl hr.in1 hb I (.cons rfl (.cons rv .nil)) (spF_use (Q := fun o r => ∃ b, r = .d (.bl b) ∧ Q o (.d (.bl (!b)))) st (Reps.cons rx (Reps.cons ry Reps.nil)) hp (Qv := fun v H' => ∃ b, v = .bl b ∧ Qv (.bl (!b)) H') (fun ls' own' H' r v l s1 rr ⟨b, e, q⟩ => by subst e; exact ⟨b, rr_bl rr, kk _ _ _ (.d (.bl (!b))) _ l s1 ir_bl q⟩) (fun d hd => by obtain ⟨b, rfl, q⟩ := h d hd; exact ⟨b, rfl, q⟩) _)) fun u s q => ?_
  obtain ⟨v, H', I', r, b, rfl, q⟩ := q
  cases r
  exact ⟨b, rfl, .bl (!b), H', I', rfl, q⟩
theorem ty_int (ls : List Addr) (own : List Cell) (H : Hp) (v : V) (pins : List (Addr × Obj)) (σ : L2.St) (s : Shared) (u : Value) (h : RRep X.K ls (F.g ls own H) (.d (.int i)) v) (_ : Inv X pins σ H s) (r : RelV v u) : PySem.W.Looks (model X.prog X.w) s.heap (typeOf u) (.type "int") := by
  cases rr_int h
  obtain ⟨t, rfl⟩ := r
  exact PySem.W.Looks.of_pure rfl
theorem ty_ins (ls : List Addr) (own : List Cell) (H : Hp) (v : V) (pins : List (Addr × Obj)) (σ : L2.St) (s : Shared) (u : Value) (h : RRep X.K ls (F.g ls own H) (.d (.ins C ns ds)) v) (I : Inv X pins σ H s) (r : RelV v u) : PySem.W.Looks (model X.prog X.w) s.heap (typeOf u) (.ref C) := by
  obtain ⟨a, dx, xs, rfl, e, _⟩ := ins_rr h
  cases r
  obtain ⟨mA, J, _⟩ := ins_get I.hok (msk_same _ _ _ _ e)
  obtain ⟨od, J, _⟩ := J.look
  exact J.type
/-! ### isinstance -/
/-- what isinstance must know of a class of the text -/
structure IsC (K : PySem.W.Frag) (C : Addr) : Prop where
  cl : Cls K C
  ha : PySem.W.findIn K (.ref C) "__class__" = some (some (.builtin "object.__class__"))
  hn : PySem.W.specialIn K (.builtin "object.__class__") "__get__" = some (some (.builtin "getset_descriptor.__get__"))
  htk : PySem.W.takesIn K (.builtin "object.__class__") = some true
  hm : PySem.W.mroIn K C (.type "object") = some true
theorem Cl.isiInt {c : D} {u : Value} {b : Bool} (hc : ∀ G v, Rep X.K G c v → ClsV v u) (hk : PySem.W.kitOne X.K (.type "int") u = some b) (h : Q own (.d (.bl b))) : Cl X F (.builtin "isinstance") [.d (.int i), .d c] Q own := by
  constructor
  intro ls H vs st rr Qv k
  obtain ⟨v, w, rfl, rv, rw'⟩ := rrs2 rr
  cases rr_int rv
  exact call_isi.to ⟨_, w, _, u, b, rfl, hc _ _ rw', .base (.int i), hk, k _ _ _ (.d (.bl b)) _ Le.refl st ir_bl h⟩
theorem Cl.isiIns {c : D} {u : Value} {b : Bool} (T : IsC X.K C) (hc : ∀ G v, Rep X.K G c v → ClsV v u) (hk : PySem.W.kitOne X.K (.ref C) u = some b) (h : Q own (.d (.bl b))) : Cl X F (.builtin "isinstance") [.d (.ins C ns ds), .d c] Q own := by
  constructor
  intro ls H vs st rr Qv k
  obtain ⟨v, w, rfl, rv, rw'⟩ := rrs2 rr
  obtain ⟨a, dx, fs, rfl, ha⟩ := ins_at st rv
  exact call_isi.to ⟨_, w, _, u, b, rfl, hc _ _ rw', .base (.ins ha T.cl T.ha T.hn T.htk T.hm), hk, k _ _ _ (.d (.bl b)) _ Le.refl st ir_bl h⟩
theorem Cl.isiBl {c : D} {u : Value} {x b : Bool} (hc : ∀ G v, Rep X.K G c v → ClsV v u) (hk : PySem.W.kitOne X.K (.type "bool") u = some b) (h : Q own (.d (.bl b))) : Cl X F (.builtin "isinstance") [.d (.bl x), .d c] Q own := by
  constructor
  intro ls H vs st rr Qv k
  obtain ⟨v, w, rfl, rv, rw'⟩ := rrs2 rr
  cases rr_bl rv
  exact call_isi.to ⟨_, w, _, u, b, rfl, hc _ _ rw', .base (.bl x), hk, k _ _ _ (.d (.bl b)) _ Le.refl st ir_bl h⟩
theorem clsv_ty {K G v} {n : String} (h : Rep K G (.ty n) v) : ClsV v (.type n) := by
  simp only [Rep] at h; subst h; exact .ty n
theorem clsv_ref {K G v} {a : Addr} (h : Rep K G (.ref a) v) : ClsV v (.ref a) := by
  simp only [Rep] at h; subst h; exact .own a
/-- x.bit_length() -/
theorem E.bits {o : Expr} {apos pos : Pos} (h : E X F o (fun o1 r => ∃ i, r = .d (.int i) ∧ Q o1 (.d (.int (Builtin.Int.intBits i : Nat)))) own ρ) (hbase : attributeBase o "bit_length" X.env (eval o X.env) = eval o X.env := by rfl) (hline : (apos.endLine == pos.line) = true := by rfl) : E X F (.Call (.Attribute o "bit_length" apos) [] [] pos) Q own ρ := by
  constructor
  intro ls σ H st sr Qv k
  refine (pe_bits pe_we hbase hline).to ?_
  refine h ls σ H st sr _ fun ls1 own1 H1 x u l1 s1 rx ⟨i, ex, q⟩ => ?_
  subst ex
  cases rr_int rx
  exact ⟨i, rfl, k _ _ _ (.d (.int _)) _ l1 s1 ir_int q⟩
end
end DL

namespace DL
open PySem PySem.Spec PyProof.Rows L2

/-! ### exceptions -/
/-- what the context takes of exceptions, over data -/
def Tk (X : Cx) (F : Fm) (XC : Value → List Cell → Ro → Prop) : Prop := ∃ W : WX, Takes X W ∧ ∀ ls own H ρ σ cls, St0 X.K F ls own H → SRep X.K ls (F.g ls own H) ρ σ → XC cls own ρ → W cls none σ H
/-- a def that changes nothing that stood and may raise -/
def spX (K : PySem.W.Frag) (pre : List D → Prop) (post : List D → D → Prop) (exc : List D → Value → Prop) : Sp := fun vs H Q E => ∃ (S : List Addr) (ds : List D), (∀ b ∈ S, H b ≠ none) ∧ Reps K (msk S H) ds vs ∧ pre ds ∧
  (∀ v H' d, Same H H' → Rep K (msk S H') d v → post ds d → Q v H') ∧ ∀ cls H', Same H H' → exc ds cls → E cls none H'
def spIX (K : PySem.W.Frag) (C : Addr) (ns : List Str) (pre : List D → Prop) (post : List D → List D → Prop) (exc : List D → Value → Prop) : Sp := fun vs H Q E => ∃ (S : List Addr) (x dx : Addr) (ws : List V) (ds : List D), vs = .ref x :: ws ∧ x ∉ S ∧ (∀ b ∈ S, H b ≠ none) ∧
  H x = some (.ins C dx []) ∧ Reps K (msk (S ++ [x]) H) ds ws ∧ pre ds ∧
  (∀ H' dx' xs fs, (∀ b o, b ≠ x → H b = some o → H' b = some o) → H' x = some (.ins C dx' (ns.zip xs)) → ns.length = fs.length → Reps K (msk (S ++ [x]) H') fs xs → post ds fs → Q .non H') ∧
  ∀ cls H', (∀ b o, b ≠ x → H b = some o → H' b = some o) → exc ds cls → E cls none H'
section
variable {P : Program} {w : World} {K : PySem.W.Frag} {mg : Str → Option Value} {base : Heap}
/-- the body's context in a def that may raise -/
abbrev cxX (P : Program) (w : World) (K : PySem.W.Frag) (mg : Str → Option Value) (base : Heap) (N : List Str) (qual : Str) (sc : Scope) (f : Addr) (cdv : Value) (A : Around) (outer : List Env) (s : Shared) (H : Hp) (E : XK) : Cx := cxOf (L2.CX P w) P w K mg base N qual sc f cdv A outer s H E
theorem ok_X {x qual : Str} {st : Stmt} {f : Addr} {fd : FuncData} {N ps : List Str} {k : Nat} (F : Fun K x qual st f fd) (S : FnScope N ps (defScope st)) {pre : List D → Prop} {post : List D → D → Prop} {exc : List D → Value → Prop} (hlen : ∀ ds, pre ds → ds.length = ps.length)
    (body : ∀ (cdv : Value) (A : Around) (outer : List Env) (s : Shared) (H : Hp) (E : XK) (Fr : Fm) (ds : List D), Room k (A.deeper (envOfC qual (defScope st) s.heap.objs.size f cdv)) → Fr.mu = [] → pre ds → Tk (cxX P w K mg base N qual (defScope st) f cdv A outer s H E) Fr (fun cls _ _ => exc ds cls) →
      W (cxX P w K mg base N qual (defScope st) f cdv A outer s H E) Fr (defBody st) { nx := fun _ _ => post ds .non, rt := fun _ r => ∃ d, r = .d d ∧ post ds d } [] (ent N.length (ds.map R.d))) :
    FnOk P w K mg base (L2.CX P w) (k + 1) f fd ps (spX K pre post exc) := by
  refine F.okX S (fun vs H Q E h => ?_) (fun cdv A outer s H vs Q E hr h => ?_)
  · obtain ⟨_, ds, _, h2, h3, _⟩ := h
    rw [← h2.length]; exact hlen ds h3
  · obtain ⟨S0, ds, h1, h2, h3, kk, ke⟩ := h
    refine ⟨_, pss_ws, ?_⟩
    have st0 : St0 K (Fm.of H S0 []) [] [] H := ⟨rfl, List.nodup_nil, fun l hl => absurd hl (by simp), fun k l c hl => absurd hl (by simp), fun b o _ e => e, fun b h => h, h1, fun l hl => absurd hl (by simp), List.nil_prefix, fun _ _ e => by cases e⟩
    have eg : Fm.g (Fm.of H S0 []) [] [] H = msk S0 H := by show msk (S0 ++ live [] []) H = _; simp [live]
    have sr : SRep K [] (Fm.g (Fm.of H S0 []) [] [] H) (ent N.length (ds.map R.d)) (L2.start N vs) := start_rep N (by rw [eg]; exact RReps.ofD h2)
    have sm : ∀ {ls' : List Addr} {own' : List Cell} {H' : Hp}, St0 K (Fm.of H S0 []) ls' own' H' → Same H H' := fun s' b o e => s'.keep b o (by simp) e
    have fin : ∀ {ls' : List Addr} {own' : List Cell} {H' : Hp} {d : D} {v : V}, St0 K (Fm.of H S0 []) ls' own' H' → Rep K (Fm.g (Fm.of H S0 []) ls' own' H') d v → post ds d → Q v H' := fun s' r q =>
      kk _ _ _ (sm s') (Rep.mono (msk_le fun b hb => List.mem_append_left _ hb) r) q
    have tk : Tk (cxX P w K mg base N qual (defScope st) f cdv A outer s H E) (Fm.of H S0 []) (fun cls _ _ => exc ds cls) :=
      ⟨fun cls d _ H => E cls d H, takes_of rfl rfl rfl rfl, fun ls own H' ρ σ cls s' _ q => ke cls H' (sm s') q⟩
    refine body cdv A outer s H E (Fm.of H S0 []) ds hr rfl h3 tk [] (L2.start N vs) H st0 sr _ ⟨?_, ?_, ?_, ?_⟩
    · intro ls' own' H' ρ σ _ s' _ q
      exact fin (d := .non) s' (by simp only [Rep]) q
    · rintro ls' own' H' r v _ s' rv ⟨d, rfl, q⟩
      exact fin s' rv q
    · intro _ _ _ _ _ _ _ _ q; exact q
    · intro _ _ _ _ _ _ _ _ q; exact q
theorem ok_IX {x qual : Str} {st : Stmt} {f C : Addr} {fd : FuncData} {N ps ns : List Str} {k : Nat} (F : Fun K x qual st f fd ∨ ∃ dvs kws, FunD K x qual (defArgs st) (defBody st) (defScope st) dvs kws f fd) (S : FnScope N ps (defScope st)) {pre : List D → Prop} {post : List D → List D → Prop} {exc : List D → Value → Prop} (hlen : ∀ ds, pre ds → ds.length + 1 = ps.length)
    (body : ∀ (cdv : Value) (A : Around) (outer : List Env) (s : Shared) (H : Hp) (E : XK) (Fr : Fm) (ds : List D), Room k (A.deeper (envOfC qual (defScope st) s.heap.objs.size f cdv)) → pre ds → Tk (cxX P w K mg base N qual (defScope st) f cdv A outer s H E) Fr (fun cls _ _ => exc ds cls) →
      W (cxX P w K mg base N qual (defScope st) f cdv A outer s H E) Fr (defBody st) { nx := fun own _ => ∃ fs : List D, own[0]? = some (.ins C ns (fs.map R.d)) ∧ post ds fs, rt := fun own r => r = .d .non ∧ ∃ fs : List D, own[0]? = some (.ins C ns (fs.map R.d)) ∧ post ds fs } [.ins C [] []] (ent N.length (.c 0 :: ds.map R.d))) :
    FnOk P w K mg base (L2.CX P w) (k + 1) f fd ps (spIX K C ns pre post exc) := by
  have len : ∀ vs H Q E, spIX K C ns pre post exc vs H Q E → vs.length = ps.length := fun vs H Q E h => by
    obtain ⟨_, l, dx, ws, ds, rfl, _, _, _, h7, h8, _⟩ := h
    rw [List.length_cons, ← h7.length]; exact hlen ds h8
  have hb : ∀ (cdv : Value) (A : Around) (outer : List Env) (s : Shared) (H : Hp) (vs : List V) (Q : VK) (E : XK), Room k (A.deeper (envOfC qual (defScope st) s.heap.objs.size f cdv)) → spIX K C ns pre post exc vs H Q E →
      ∃ t, PSs (cxX P w K mg base N qual (defScope st) f cdv A outer s H E) (defBody st) t ∧ t { nx := fun _ H' => Q .non H', rt := Q } (L2.start N vs) H := by
    intro cdv A outer s H vs Q E hr h
    obtain ⟨S0, l, dx, ws, ds, rfl, hl, h1, h4, h7, h8, kk, ke⟩ := h
    refine ⟨_, pss_ws, ?_⟩
    have st0 : St0 K (Fm.of H S0 [l]) [l] [.ins C [] []] H := by
      refine ⟨rfl, by simp, fun b hb => ?_, fun j b c e1 e2 => ?_, fun b o _ e => e, fun b h => h, h1, fun b hb => by rw [List.mem_singleton.mp hb, h4]; exact fun z => (by cases z), List.nil_prefix, fun _ _ e => by cases e⟩
      · rw [List.mem_singleton.mp hb]; exact ⟨hl, .inr (by simp)⟩
      · cases j with
        | zero =>
          simp at e1 e2
          subst e1; subst e2
          exact ⟨dx, [], h4, rfl, .nil⟩
        | succ j => simp at e1
    have sr : SRep K [l] (Fm.g (Fm.of H S0 [l]) [l] [.ins C [] []] H) (ent N.length (.c 0 :: ds.map R.d)) (L2.start N (.ref l :: ws)) := start_rep N (.cons ⟨l, rfl, rfl⟩ (RReps.ofD h7))
    have fin : ∀ {ls' : List Addr} {own' : List Cell} {H' : Hp}, Le (Fm.of H S0 [l]) [l] [.ins C [] []] H ls' own' H' → St0 K (Fm.of H S0 [l]) ls' own' H' → (∃ fs : List D, own'[0]? = some (.ins C ns (fs.map R.d)) ∧ post ds fs) → Q .non H' := by
      rintro ls' own' H' le s' ⟨fs, ec, q⟩
      have e0 : ls'[0]? = some l := pre_get le.pre rfl
      obtain ⟨dx', xs', g1, g2, g3⟩ := s'.at_ 0 l _ e0 ec
      refine kk _ _ _ _ (fun b o hb e => s'.keep b o (by simpa using hb) e) g1 (by rw [g2, List.length_map]) (Reps.mono (msk_le fun b hb => ?_) (RReps.toD g3)) q
      rcases List.mem_append.mp hb with h | h
      · exact List.mem_append_left _ h
      · rw [List.mem_singleton.mp h]; exact List.mem_append_right _ (live_get e0 ec fun z => by cases z)
    have tk : Tk (cxX P w K mg base N qual (defScope st) f cdv A outer s H E) (Fm.of H S0 [l]) (fun cls _ _ => exc ds cls) :=
      ⟨fun cls d _ H => E cls d H, takes_of rfl rfl rfl rfl, fun ls own H' ρ σ cls s' _ q => ke cls H' (fun b o hb e => s'.keep b o (by simpa using hb) e) q⟩
    refine body cdv A outer s H E (Fm.of H S0 [l]) ds hr h8 tk [l] (L2.start N (.ref l :: ws)) H st0 sr _ ⟨?_, ?_, ?_, ?_⟩
    · intro ls' own' H' ρ σ le s' _ q
      exact fin le s' q
    · rintro ls' own' H' r v le s' rv ⟨rfl, q⟩
      have e := rr_non rv
      subst e
      exact fin le s' q
    · intro _ _ _ _ _ _ _ _ q; exact q
    · intro _ _ _ _ _ _ _ _ q; exact q
  rcases F with F | ⟨dvs, kws, F⟩
  · exact F.okX S len hb
  · exact F.ok S len fun cdv A outer s H vs Q E hr h => hb cdv A outer s H vs Q E hr h
end
section
variable {X : Cx} {F : Fm} {own : List Cell} {ρ : Ro} {Q : QE} {P : Po} {k : Nat} {f C : Addr} {fd : FuncData} {ps : List Str} {pre : List D → Prop} {post : List D → D → Prop} {exc : List D → Value → Prop} {x m : Str} {p pos apos : Pos} {e o : Expr} {es : List Expr} {XC : Value → List Cell → Ro → Prop}
/-- raise X('..'), X a class of the text without own __init__ -/
theorem W1.raise {B newId initId : String} {bmB : List Value} {msg : Str} {j : Nat} {p2 : Pos} (hcalm : X.calm = true) (tk : Tk X F XC) (FB : ExcBaseFacts B newId initId bmB) (q : PySem.W.excIn X.K C bmB newId = true) (gC : X.mg x = some (.ref C)) (kC : PySem.W.keepIn X.K (.ref C) = true) (r : Raises X (.ref C)) (h : XC (.ref C) own ρ) (hg : Gl X x := by rfl)
    (hdb : (x == ("__debug__" : Str)) = false := by decide) : W1 X F (.Raise (some (.Call (.Name x p) [.Constant (.str msg) j p2] [] apos)) none pos) P own ρ := by
  constructor
  intro ls σ H s0 sr De k
  obtain ⟨W0, t, hw⟩ := tk
  exact (ps_raise hcalm t (pmk_own FB q gC kC r hg hdb)).to (hw _ _ _ _ _ _ s0 sr h)
theorem spX_use {ls own H Qv} {ds : List D} {vs : List V} {σ : L2.St} {W0 : WX} (st : St0 X.K F ls own H) (sr : SRep X.K ls (F.g ls own H) ρ σ) (rr : Reps X.K (F.g ls own H) ds vs) (hp : pre ds) (k : KV' X F ls own H Q Qv) (q : ∀ d, post ds d → Q own (.d d))
    (hw : ∀ ls own H ρ σ cls, St0 X.K F ls own H → SRep X.K ls (F.g ls own H) ρ σ → XC cls own ρ → W0 cls none σ H) (qe : ∀ cls, exc ds cls → XC cls own ρ) : spX X.K pre post exc vs H Qv (WE W0 σ) :=
  ⟨F.S0 ++ live ls own, ds, st.hid, rr, hp, fun v H' d sm rd pd => k ls own H' (.d d) v (Le.grow sm) (st.grow sm) rd (q d pd), fun cls H' sm he => hw ls own H' ρ σ cls (st.grow sm) (sr.up List.prefix_rfl (msk_mono sm)) (qe cls he)⟩
/-- o.m(e, ..), the method may raise -/
theorem E.methX {pl : Sem Bool} (tk : Tk X F XC) (c : Cls X.K C) (hm : Meth X.K C m f) (G : FnOk X.prog X.w X.K X.mg X.base (L2.CX X.prog X.w) k f fd ps (spX X.K pre post exc)) (hr : Room k X.A) (hb : Binds X.K fd ps [])
    (h : E X F o (fun o1 r => ∃ ns ds0, r = .d (.ins C ns ds0) ∧ (ns.zip ds0).lookup m = none ∧ A X F (e :: es) (fun o2 rs => ∃ ds : List D, rs = ds.map R.d ∧ pre (.ins C ns ds0 :: ds) ∧ (∀ d, post (.ins C ns ds0 :: ds) d → Q o2 (.d d)) ∧ ∀ cls, exc (.ins C ns ds0 :: ds) cls → XC cls o2 ρ) o1 ρ) own ρ)
    (hst : starEach (e :: es) X.env = (false, eval e X.env) :: starEach es X.env := by rfl) (hpl : (backTo pos (starEach es X.env)).any (·.1) = false := by rfl)
    (ht : eval (.Call (.Attribute o m apos) (e :: es) [] pos) X.env = (do
      let ov ← eval o X.env
      standAt apos.atName
      let (f, first) ← holding [ov] (getMethod ov m pl)
      callWith pos f first (backTo pos (starEach (e :: es) X.env)) (backToKw pos (keywordEach [] X.env))) := by rfl) : E X F (.Call (.Attribute o m apos) (e :: es) [] pos) Q own ρ := by
  constructor
  intro ls σ H st sr Qv kk pins s I
  obtain ⟨W0, t, hw⟩ := tk
  refine PySem.W.methodCall_KW (pl := pl) (thn (h ls σ H st sr (fun x H1 => ∃ a dx fs, x = .ref a ∧ H1 a = some (.ins C dx fs) ∧ fs.lookup m = none ∧ wa X (e :: es) σ H1 fun vs H2 => spX X.K pre post exc (x :: vs) H2 Qv (WE W0 σ)) (fun ls1 own1 H1 r u l1 s1 rr ⟨ns, ds0, er, hn, ha⟩ => ?_) pins s I) fun u s1 ⟨x, H1, I1, rx, a, dx, fs, ex, ea, l, q⟩ => ?_) ht
  · subst er
    obtain ⟨a, dx, fs, rfl, g1, g2⟩ := meth_core s1 rr hn
    refine ⟨a, dx, fs, rfl, g1, g2, ?_⟩
    refine ha ls1 σ H1 s1 (sr.up l1.pre l1.same) _ fun ls2 own2 H2 rs vs l2 s2 rr2 ⟨ds, er, hp, q, qe⟩ => ?_
    subst er
    exact spX_use s2 (sr.up (l1.trans l2).pre (l1.trans l2).same) (Reps.cons (rr.up l2.pre l2.same) (RReps.toD rr2)) hp (fun _ _ _ _ _ l => kk _ _ _ _ _ ((l1.trans l2).trans l)) q hw qe
  · subst ex
    obtain rfl : u = Value.ref a := rx
    refine getmeth_ok I1 ea c hm l ?_
    refine PySem.W.callWith_K (first := [.ref a]) (h₀ := X.base) I.ok.mod.kin hm.kp (thn (q pos pins s1 I1) fun us s2 ⟨vs, H2, I2, r, q2⟩ => ⟨I2.kIn, ?_⟩) hst hpl
    exact run_fnS (us := .ref a :: us) (vs := .ref a :: vs) (E := WE W0) G hr hb (passAt t σ) I2 (.cons rfl r) q2
/-- C(e, ..), the __init__ may raise -/
theorem run_makeS {pins : List (Addr × Obj)} {σ : L2.St} {H : Hp} {s : Shared} {Qv : VK} {us dus : List Value} {vs dvs : List V} {sp : Sp} {E : XK} (M : Mk X.K C f) (G : FnOk X.prog X.w X.K X.mg X.base (L2.CX X.prog X.w) k f fd ps sp) (hr : Room (k + 1) X.A) (hb : Binds X.K fd ps dus) (hd : Vals dvs dus)
    (hx : PassesAt (L2.CX X.prog X.w) X σ E) (I : Inv X pins σ H s) (r : Vals vs us)
    (h : ∀ x dx, H x = none → H dx = none → dx ≠ x → sp (.ref x :: (vs ++ dvs)) (upd (upd H dx (.own x)) x (.ins C dx [])) (fun v H2 => v = .non ∧ Qv (.ref x) H2) E) :
    wpAny (model X.prog X.w) X.A (call (.ref C) us) (EP X pins σ Qv) X.xe s := by
  have hq := h (s.heap.objs.size + 1) s.heap.objs.size (I.hok.fresh (Nat.le_succ _)) (I.hok.fresh (Nat.le_refl _)) (Nat.ne_of_lt (Nat.lt_succ_self _))
  have I2 := Inv.made (C := C) I
  have r2 : Vals (V.ref (s.heap.objs.size + 1) :: (vs ++ dvs)) (Value.ref (s.heap.objs.size + 1) :: (us ++ dus)) := .cons rfl (r.append hd)
  have hl : (Value.ref (s.heap.objs.size + 1) :: us ++ dus).length = ps.length := by
    have e := r2.length
    rw [G.len _ _ _ _ hq] at e
    exact e.symm
  refine wpAny_call (make_map (f := f) I.kIn M.makes M.init (beq_iff_eq.mp M.fn) (codeAny_mono (G.run _ X.stack _ _ ⟨Value.ref (s.heap.objs.size + 1) :: us, []⟩ (Value.ref (s.heap.objs.size + 1) :: (us ++ dus)) _ _ E (hr.make C us [])
    (I2.env0.make C us []) (hb _ (Value.ref (s.heap.objs.size + 1) :: us) I2.kIn hl) r2 hq) fun r s' hq' => ?_))
  cases r with
  | error e => exact hx pins _ _ e s' I2 hq'
  | ok fl =>
    cases fl with
    | ret u =>
      obtain ⟨v, H', I3, rv, ev, q3⟩ := I2.after hq'
      subst ev
      exact ⟨rv, ⟨V.ref (s.heap.objs.size + 1), H', I3, rfl, q3⟩⟩
    | next => exact False.elim hq'
    | brk => exact False.elim hq'
    | cont => exact False.elim hq'
theorem E.makeX {ns : List Str} {postI : List D → List D → Prop} {dds : List D} {dvs : List V} {dus : List Value} (tk : Tk X F XC) (M : Mk X.K C f) (G : FnOk X.prog X.w X.K X.mg X.base (L2.CX X.prog X.w) k f fd ps (spIX X.K C ns pre postI exc)) (hr : Room (k + 1) X.A) (hm : X.mg x = some (.ref C)) (hb : Binds X.K fd ps dus) (hdv : Vals dvs dus) (hdd : ∀ G, Reps X.K G dds dvs)
    (h : A X F (e :: es) (fun o rs => ∃ ds : List D, rs = ds.map R.d ∧ pre (ds ++ dds) ∧ (∀ fs, postI (ds ++ dds) fs → Q o (.d (.ins C ns fs))) ∧ ∀ cls, exc (ds ++ dds) cls → XC cls o ρ) own ρ) (hg : Gl X x := by rfl) (hdb : (x == ("__debug__" : Str)) = false := by decide) (he : starEach (e :: es) X.env = (false, eval e X.env) :: starEach es X.env := by rfl)
    (hpl : (backTo pos (starEach es X.env)).any (·.1) = false := by rfl) : E X F (.Call (.Name x p) (e :: es) [] pos) Q own ρ := by
  constructor
  intro ls σ H st sr Qv kk pins s I
  obtain ⟨W0, t, hw⟩ := tk
  refine wpAny_Call_Name_kw (ld_glob I hg hm ?_ hdb)
  refine PySem.W.callWith_K (h₀ := X.base) I.ok.mod.kin M.kp (thn (h ls σ H st sr (fun vs H1 => ∀ a dx, H1 a = none → H1 dx = none → dx ≠ a → spIX X.K C ns pre postI exc (.ref a :: (vs ++ dvs)) (upd (upd H1 dx (.own a)) a (.ins C dx [])) (fun v H2 => v = .non ∧ Qv (.ref a) H2) (WE W0 σ)) (fun ls1 own1 H1 rs vs l1 s1 rr ⟨ds, er, hp, q, qe⟩ => ?_) pos pins s I) fun us s1 ⟨vs, H1, I1, r, q⟩ => ⟨I1.kIn, ?_⟩) he hpl
  · subst er
    intro a dx ha hdx hne
    have hid : a ∉ F.S0 ++ live ls1 own1 := fun z => s1.hid a z ha
    have sm0 : Same H1 (upd (upd H1 dx (.own a)) a (.ins C dx [])) := fun b o e => by rw [upd_ne (ne_of_none e ha), upd_ne (ne_of_none e hdx)]; exact e
    refine ⟨F.S0 ++ live ls1 own1, a, dx, _, ds ++ dds, rfl, hid, fun b hb z => ?_, upd_same, ?_, hp, fun H' dx' xs fs hm' a1 a2 a3 a4 => ⟨rfl, ?_⟩, fun cls H' hm' he => ?_⟩
    · have := s1.hid b hb
      cases q1 : H1 b with
      | none => exact this q1
      | some o => rw [sm0 b o q1] at z; cases z
    · refine Reps.append (Reps.mono (fun b o e => ?_) (RReps.toD rr)) (hdd _)
      have hb : b ≠ a := fun z => by
        subst z
        have := msk_same _ _ _ _ e
        rw [ha] at this; cases this
      have e : msk (F.S0 ++ live ls1 own1) H1 b = some o := e
      unfold msk at e ⊢
      split at e
      · cases e
      · rename_i hn
        rw [if_neg (by rw [List.mem_append, List.mem_singleton]; exact fun z => z.elim hn hb)]
        exact sm0 b o e
    · have sm : Same H1 H' := fun b o e => hm' b o (fun z => by subst z; rw [ha] at e; cases e) (sm0 b o e)
      refine kk ls1 own1 H' (.d (.ins C ns fs)) _ (l1.trans (Le.grow sm)) (s1.grow sm) ?_ (q fs a4)
      simp only [RRep, Rep]
      refine ⟨a, dx', xs, rfl, ?_, a2, Reps.mono (msk_le fun b hb => List.mem_append_left _ hb) a3⟩
      show msk (F.S0 ++ live ls1 own1) H' a = _
      rw [msk_out hid]
      exact a1
    · have sm : Same H1 H' := fun b o e => hm' b o (fun z => by subst z; rw [ha] at e; cases e) (sm0 b o e)
      exact hw ls1 own1 H' ρ σ cls (s1.grow sm) (sr.up l1.pre ((Le.grow sm (own := own1) (ls := ls1) (F := F)).same |> l1.same.trans)) (qe cls he)
  · exact run_makeS (E := WE W0 σ) M G hr hb hdv (passAt t σ) I1 r q
/-- try: .. except c as n: .. -/
theorem W1.tryAs {n : Str} {i : Nat} {c : Value} {body suite : List Stmt} {b₀ : Stmt} {np pos' : Pos} (XC : Value → List Cell → Ro → Prop) (hs : X.stack = X.env :: X.outer) (hf : X.env.frame = some X.env.locals) (hN : X.N.Nodup) (hi : X.N[i]? = some n) (hln : X.env.kindOf n = some .local) (hc : Names X x c) {Wout : WX} (tko : Takes X Wout)
    (hb : ∀ pn xe F', F'.H0 = F.H0 → F'.S0 = F.S0 → F'.mu = F.mu → PassesOwn (model X.prog X.w) X.A X.env xe → Tk (X.tr pn xe) F' XC → W (X.tr pn xe) F' body { P with nx := P.nx } own ρ)
    (hsu : ∀ a oe cls pn own' ρ', Zc cls none oe → (∃ vs, oe.data = .fields vs) → XC cls own' ρ' → PySem.W.exmOne X.K cls c = some true ∧ W (X.suite a ((a, oe) :: pn)) F (b₀ :: suite) { nx := fun o r => P.nx o (r.set i none), rt := P.rt, bk := fun o r => P.bk o (r.set i none), ct := fun o r => P.ct o (r.set i none) } own' (ρ'.set i (some (.d (.ref a))))) :
    W1 X F (.Try body [.ExceptHandler (some (.Name x np)) (some n) (b₀ :: suite) pos'] [] [] pos) P own ρ := by
  constructor
  intro ls σ H s0 sr De k
  refine (ps_try_as (tb := fun W D σ H => ∀ pn xe, Takes (X.tr pn xe) W → PassesOwn (model X.prog X.w) X.A X.env xe → ws (X.tr pn xe) body D σ H)
    (ts := fun a cls d D σ H => ∀ oe pn, Zc cls d oe → (∃ vs, oe.data = .fields vs) → ws (X.suite a ((a, oe) :: pn)) (b₀ :: suite) D σ H) hs hf hN hi hln hc tko
    (fun W pn xe tk po => ⟨fun pins s σ H D I h => h pn xe tk po pins s I⟩) (fun a oe cls d pn hz hv => ⟨fun pins s σ H D I h => h oe pn hz hv pins s I⟩)).to ?_
  intro pn xe tk po
  have st1 : St0 (X.tr pn xe).K { F with la := ls, ga := F.g ls own H } ls own H := { s0 with ap := List.prefix_rfl, as := Same.refl _ }
  have back : ∀ {ls' own' H'}, St0 X.K { F with la := ls, ga := F.g ls own H } ls' own' H' → St0 X.K F ls' own' H' ∧ Le F ls own H ls' own' H' := fun z =>
    ⟨{ z with ap := s0.ap.trans z.ap, as := s0.as.trans z.as }, ⟨z.ap, z.as⟩⟩
  refine hb pn xe { F with la := ls, ga := F.g ls own H } rfl rfl rfl po ⟨_, tk, fun ls' own' H' ρ' σ' cls z sz hx => ?_⟩ ls σ H st1 sr De ⟨fun ls' own' H' ρ' σ' _ z sz q => k.nx _ _ _ _ _ (back z).2 (back z).1 sz q, fun ls' own' H' r v _ z rv q => k.rt _ _ _ _ _ (back z).2 (back z).1 rv q, fun ls' own' H' ρ' σ' _ z sz q => k.bk _ _ _ _ _ (back z).2 (back z).1 sz q, fun ls' own' H' ρ' σ' _ z sz q => k.ct _ _ _ _ _ (back z).2 (back z).1 sz q⟩
  have zz := (back z).1
  have zl := (back z).2
  have noneS : ∀ {ls K G} {ρ : Ro} {σ : L2.St} (i : Nat), SRep K ls G ρ σ → SRep K ls G (ρ.set i none) (σ.set i none) := by
    intro ls K G ρ σ i h
    induction h generalizing i with
    | nil => exact .nil
    | cons a t ih => cases i with
      | zero => exact .cons True.intro t
      | succ i => exact .cons a (ih i)
  refine ⟨true, ?_, fun _ a ha oe pn' hz hv => ?_, fun z => by cases z⟩
  · have oe : Obj := ⟨cls, none, .fields #[], #[]⟩
    exact (hsu 0 ⟨cls, none, .fields #[], #[]⟩ cls [] own' ρ' ⟨rfl, rfl⟩ ⟨_, rfl⟩ hx).1
  · refine (hsu a oe cls pn' own' ρ' hz hv hx).2 ls' _ H' zz (SRep.set (by simp only [RRep, Rep]) i sz) _ ⟨fun ls2 own2 H2 ρ2 σ2 l z2 s2 q => k.nx _ _ _ _ _ (zl.trans l) z2 (noneS i s2) q, fun ls2 own2 H2 r v l z2 rv q => k.rt _ _ _ _ _ (zl.trans l) z2 rv q, fun ls2 own2 H2 ρ2 σ2 l z2 s2 q => k.bk _ _ _ _ _ (zl.trans l) z2 (noneS i s2) q, fun ls2 own2 H2 ρ2 σ2 l z2 s2 q => k.ct _ _ _ _ _ (zl.trans l) z2 (noneS i s2) q⟩
/-- isinstance(e, c) in the suite -/
theorem Cl.isiExc {a De' : Addr} {oe : Obj} {pn : List (Addr × Obj)} {c : D} {cv : Value} {b : Bool} (T : ExcC X.K De') (hz : Zc (.ref De') none oe) (hf : ∃ vs, oe.data = .fields vs) (hc : ∀ G v, Rep X.K G c v → ∀ u, RelV v u → u = cv) (hk : PySem.W.kitOne X.K (.ref De') cv = some b) (h : Q own (.d (.bl b))) :
    Cl (X.suite a ((a, oe) :: pn)) F (.builtin "isinstance") [.d (.ref a), .d c] Q own := by
  constructor
  intro ls H vs st rr Qv k
  obtain ⟨v, w, rfl, rv, rw'⟩ := rrs2 rr
  cases rr_ref rv
  exact (call_isE (X := X) (pn := pn) T hz hf).to ⟨w, cv, b, rfl, hc _ _ rw', hk, k _ _ _ (.d (.bl b)) _ Le.refl st ir_bl h⟩
theorem relv_ty {K G v} {n : String} (h : Rep K G (.ty n) v) (u : Value) (r : RelV v u) : u = .type n := by
  simp only [Rep] at h; subst h; exact r
theorem relv_ref {K G v} {a : Addr} (h : Rep K G (.ref a) v) (u : Value) (r : RelV v u) : u = .ref a := by
  simp only [Rep] at h; subst h; exact r
end
end DL

namespace DL.Own
open PySem PySem.W PySem.Calls PyProof.Rows
section
variable {prog : Program} {w : World} {A : Around} {E : Value → Shared → Prop} {s : Shared}
theorem boolnew {x : Value} {R : Result → Shared → Prop} (h : wpAny (model prog w) A.in1 (truthy x) (fun b s' => R (.ok (.ret (.bool b))) s') (fun e s' => R (.error e) s') s) :
    codeAny (model prog w) A (.call (.builtin "bool.__new__") ⟨[.type "bool", x], []⟩) R s := by
  refine codeAny_call_builtin F.called_bool.plain F.entry_bool_new (wpAny_of_eq (F.newCall_bool_1 x) ?_)
  obtain ⟨hp, g, d, tk, os⟩ := s
  have f1 := F.conv_sub_bool
  have k : ∀ {Q : Fin → Shared → Prop}, (∀ b s', R (.ok (.ret (.bool b))) s' → Q (.done (.ret (.bool b))) s') → wpAny (model prog w) A.in1 (truthy x) (fun b s' => Q (.done (.ret (.bool b))) s') (fun e s' => R (.error e) s') ⟨hp, g, d, tk, os⟩ := fun q => wpAny_mono h (fun b s' z => q b s' z) fun _ _ z => z
  repeat (any_goals (first | assumption | exact wpAny_bind (k fun b s' z => wpAny_pure z) | exact wpAny_bind (wpAny_mono h (fun b s' z => wpAny_pure z) fun _ _ z => z) | wp_step))
/-- bool(x), by x's truth -/
theorem boolc {x : Value} {Q : Value → Shared → Prop} (h : wpAny (model prog w) A.in1.in1 (truthy x) (fun b s' => Q (.bool b) s') E s) : wpAny (model prog w) A (call (.type "bool") [x]) Q E s := by
  have tc := F.called_bool
  obtain ⟨c, tl, hm⟩ := tc.mro
  have md := tc.made
  have sb := tc.sub
  refine wpAny_call (codeAny_of_tree ?_)
  show wpAny _ _ (callAny (.type "bool") ⟨[x], []⟩) _ _ _
  refine wpAny_pure (And.intro (Code.quiet_builtin _ (by decide +kernel)) ?_)
  refine codeAny_builtin F.entry_type_call ?_
  rw [Around.under_plain (weight_type_call_type "bool" [x] []) (units_type_call_type "bool" [x] [])]
  have n1 := tc.notType
  have n2 := tc.canCreate
  have f1 := F.typeCall_bool_1 x
  repeat (any_goals (first | assumption | wp_step))
  refine codeAny_mono (boolnew (R := fun r s1 => match r with
      | .ok (.ret v) => s1.TypeIs v "bool" ∧ Q v s1
      | .ok _ => False
      | .error e => E e s1) (wpAny_mono h (fun b s' z => ⟨rfl, z⟩) fun _ _ z => z)) fun r s1 hr => ?_
  cases r with
  | error e => exact hr
  | ok fl =>
    cases fl with
    | ret v =>
      obtain ⟨ht, hq⟩ := hr
      have li := tc.init.lookup
      have bi := tc.init.bind v
      repeat (any_goals (first | assumption | wp_step))
      have ok2 : argsOk "object.__init__" ⟨[v, x], []⟩ := F.args_object_init_2 v x
      have gi := object_init_meets (self := v) (rest := [x]) li md F.newNe_bool prog w A.in1 (wants (fun r s2 => r = .none ∧ Q v s2) E) s1 ⟨ht, rfl, hq⟩
      refine codeAny_mono (codeAny_call_builtin tc.init.plain F.entry_object_init (tc.init.check _ _ _ _ _ _ _ _ ht ok2 gi)) fun r2 s2 h2 => ?_
      cases r2 with
      | error e => exact h2
      | ok fl2 =>
        cases fl2 with
        | ret r =>
          obtain ⟨rfl, hq⟩ := h2
          repeat (any_goals (first | assumption | wp_step))
        | _ => exact h2.elim
    | _ => exact hr.elim
end
end DL.Own
namespace DL
open PySem PySem.Spec PyProof.Rows L2
section
variable {X : Cx} {F : Fm} {own : List Cell} {ρ : Ro} {Q : QE} {QT : QT} {P : Po} {st : Stmt} {sts rest : List Stmt}
/-- a middle state -/
theorem W.cut (M : List Cell → Ro → Prop) (h : W1 X F st { P with nx := M } own ρ) (k : ∀ o r, M o r → W X F rest P o r) : W X F (st :: rest) P own ρ := by
  refine W.cons ?_
  constructor
  intro ls σ H s0 sr De e
  exact h ls σ H s0 sr De ⟨fun _ _ _ _ _ l s r q => e.nx _ _ _ _ _ l s r (k _ _ q), e.rt, e.bk, e.ct⟩
/-- bool(x) of an instance -/
theorem Cl.boolO {C f : Addr} {k : Nat} {fd : FuncData} {ps : List Str} {pre : List D → Prop} {post : List D → D → Prop} {ns : List Str} {ds : List D} (hs : PySem.W.findIn X.K (.ref C) "__bool__" = some (some (.ref f))) (hf : PySem.W.isFn X.K (.ref f) = true) (G : FnOk X.prog X.w X.K X.mg X.base CX0 k f fd ps (spF X.K pre post)) (hr : Room (k + 2) X.A) (hb : Binds X.K fd ps [])
    (hp : pre [.ins C ns ds]) (h : ∀ d, post [.ins C ns ds] d → ∃ b, d = .bl b ∧ Q own (.d (.bl b))) : Cl X F (.type "bool") [.d (.ins C ns ds)] Q own := by
  constructor
  intro ls H vs st rr Qv kk pins σ s us I ru
  obtain ⟨v, rfl, rx⟩ := rrs1 rr
  obtain ⟨a, dx, fs, rfl, ha⟩ := ins_at st rx
  obtain ⟨u, rfl, ru1⟩ := Vals.one ru
  obtain rfl : u = Value.ref a := ru1
  obtain ⟨mA, J, _⟩ := ins_get I.hok ha
  obtain ⟨od, J, _⟩ := J.look
  obtain ⟨m, hF⟩ := I.fr
  refine Own.boolc ?_
  refine PySem.W.truthy_K hF I.ok.mod.kin J hs hf ?_
  refine thn (run_at (vs := [.ref a]) G rfl hr.in1.in1 hb I (.cons rfl .nil) (spF_use (Q := fun o r => ∃ b, r = .d (.bl b) ∧ Q o (.d (.bl b))) st (Reps.cons rx Reps.nil) hp (Qv := fun v H' => ∃ b, v = .bl b ∧ Qv (.bl b) H') (fun ls' own' H' r v l s1 rr ⟨b, e, q⟩ => by subst e; exact ⟨b, rr_bl rr, kk _ _ _ (.d (.bl b)) _ l s1 ir_bl q⟩) (fun d hd => by obtain ⟨b, rfl, q⟩ := h d hd; exact ⟨b, rfl, q⟩) _)) fun u s q => ?_
  obtain ⟨v, H', I', r, b, rfl, q⟩ := q
  cases r
  exact ⟨.bl b, H', I', rfl, q⟩
/-- flat data as the kit's data -/
inductive FlatD where
  | b (x : Bool) | i (x : Int) | n | s (x : Str)
def FlatD.d : FlatD → D
  | .b x => .bl x | .i x => .int x | .n => .non | .s x => .str x
def FlatD.p : FlatD → PyData
  | .b x => .bool x | .i x => .int x | .n => .none | .s x => .str x
theorem dp_flat {K : PySem.W.Frag} {G : Hp} : ∀ {xs : List FlatD} {vs : List V}, Reps K G (xs.map FlatD.d) vs → ∀ {H : Hp}, DpAll K H vs (xs.map FlatD.p)
  | [], _, h, _ => by simp only [List.map_nil, Reps] at h; subst h; exact .nil
  | x :: xs, _, h, _ => by
    simp only [List.map_cons, Reps] at h
    obtain ⟨v, r, rfl, h1, h2⟩ := h
    refine .cons ?_ (dp_flat h2)
    cases x <;> simp only [FlatD.d, Rep] at h1 <;> subst h1
    · exact .bl _
    · exact .int _
    · exact .non
    · exact .str _
/-- two lists of flat data compared -/
theorem O2.eqL {xs ys : List FlatD} {a b : List D} {r : Bool} (hu : X.A.units + 64 < cLine) (ha : a = xs.map FlatD.d) (hb : b = ys.map FlatD.d) (sa : SeqAt.shaped (.list (xs.map FlatD.p)) = true) (sb : SeqAt.shaped (.list (ys.map FlatD.p)) = true) (hr : PyData.eqv (.list (xs.map FlatD.p)) (.list (ys.map FlatD.p)) = r) (h : Q own (.d (.bl r))) :
    O2 X F (.cmp .Eq) (.d (.lst a)) (.d (.lst b)) Q own := by
  constructor
  subst ha; subst hb
  intro ls H u v st rx ry Qv k
  obtain ⟨p, vs, rfl, hs, hv⟩ := lst_rr rx
  obtain ⟨q, ws, rfl, hs', hw⟩ := lst_rr ry
  exact (op_eqD hu).to ⟨_, _, .lst (sq_h hs) (dp_flat hv), .lst (sq_h hs') (dp_flat hw), sa, sb, k _ _ _ (.d (.bl _)) _ Le.refl st ir_bl (by rw [hr]; exact h)⟩
end
/-! ### a def that hands back a new list -/
def spN (K : PySem.W.Frag) (pre : List D → Prop) (I : List D → List D → Prop) : Sp := fun vs H Q _ => ∃ (S : List Addr) (ds : List D), (∀ b ∈ S, H b ≠ none) ∧ Reps K (msk S H) ds vs ∧ pre ds ∧
  ∀ p H' xs ps, Same H H' → H p = none → H' p = some (.lst xs) → Reps K (msk (S ++ [p]) H') ps xs → I ds ps → Q (.ref p) H'
section
variable {P : Program} {w : World} {K : PySem.W.Frag} {mg : Str → Option Value} {base : Heap}
theorem ok_N {x qual : Str} {st : Stmt} {f : Addr} {fd : FuncData} {N ps : List Str} {k : Nat} (F : Fun K x qual st f fd) (S : FnScope N ps (defScope st)) {pre : List D → Prop} {I : List D → List D → Prop} (hlen : ∀ ds, pre ds → ds.length = ps.length)
    (body : ∀ (cdv : Value) (A : Around) (outer : List Env) (s : Shared) (H : Hp) (E : XK) (Fr : Fm) (ds : List D), Room k (A.deeper (envOfC qual (defScope st) s.heap.objs.size f cdv)) → Fr.mu = [] → pre ds →
      W (cx0 P w K mg base N qual (defScope st) f cdv A outer s H E) Fr (defBody st) { nx := fun _ _ => False, rt := fun own r => ∃ n qs, r = .c n ∧ own[n]? = some (.lst (qs.map R.d)) ∧ I ds qs } [] (ent N.length (ds.map R.d))) :
    FnOk P w K mg base CX0 (k + 1) f fd ps (spN K pre I) := by
  refine F.ok S (fun vs H Q E h => ?_) (fun cdv A outer s H vs Q E hr h => ?_)
  · obtain ⟨_, ds, _, h2, h3, _⟩ := h
    rw [← h2.length]; exact hlen ds h3
  · obtain ⟨S0, ds, h1, h2, h3, kk⟩ := h
    refine ⟨_, pss_ws, ?_⟩
    have st0 : St0 K (Fm.of H S0 []) [] [] H := ⟨rfl, List.nodup_nil, fun l hl => absurd hl (by simp), fun k l c hl => absurd hl (by simp), fun b o _ e => e, fun b h => h, h1, fun l hl => absurd hl (by simp), List.nil_prefix, fun _ _ e => by cases e⟩
    have eg : Fm.g (Fm.of H S0 []) [] [] H = msk S0 H := by show msk (S0 ++ live [] []) H = _; simp [live]
    have sr : SRep K [] (Fm.g (Fm.of H S0 []) [] [] H) (ent N.length (ds.map R.d)) (L2.start N vs) := start_rep N (by rw [eg]; exact RReps.ofD h2)
    refine body cdv A outer s H E (Fm.of H S0 []) ds hr rfl h3 [] (L2.start N vs) H st0 sr _ ⟨?_, ?_, ?_, ?_⟩
    · intro _ _ _ _ _ _ _ _ q; exact q.elim
    · rintro ls' own' H' r v _ s' rv ⟨n, qs, rfl, hc, q⟩
      obtain ⟨l, hl, rfl⟩ := rv
      obtain ⟨xs, g1, g2⟩ := s'.at_ n l _ hl hc
      have hn : H l = none := by
        rcases (s'.new l (List.mem_of_getElem? hl)).2 with h | h
        · exact h
        · exact absurd h (by simp)
      refine kk l H' xs qs (fun b o e => s'.keep b o (by simp) e) hn g1 (Reps.mono (msk_le fun b hb => ?_) (RReps.toD g2)) q
      rcases List.mem_append.mp hb with h | h
      · exact List.mem_append_left _ h
      · rw [List.mem_singleton.mp h]; exact List.mem_append_right _ (live_get hl hc fun z => by cases z)
    · intro _ _ _ _ _ _ _ _ q; exact q
    · intro _ _ _ _ _ _ _ _ q; exact q
end
section
variable {X : Cx} {F : Fm} {own : List Cell} {ρ : Ro} {Q : QE} {k : Nat} {f : Addr} {fd : FuncData} {ps : List Str} {pre : List D → Prop} {I : List D → List D → Prop} {x : Str} {p pos : Pos} {e : Expr} {es : List Expr}
theorem E.callN (G : FnOk X.prog X.w X.K X.mg X.base CX0 k f fd ps (spN X.K pre I)) (hr : Room k X.A) (hm : X.mg x = some (.ref f)) (hk : PySem.W.keepIn X.K (.ref f) = true) (hb : Binds X.K fd ps [])
    (h : A X F (e :: es) (fun o rs => ∃ ds : List D, rs = ds.map R.d ∧ pre ds ∧ Q (o ++ [.any (I ds)]) (.c o.length)) own ρ) (hg : Gl X x := by rfl) (hdb : (x == ("__debug__" : Str)) = false := by decide) (he : starEach (e :: es) X.env = (false, eval e X.env) :: starEach es X.env := by rfl)
    (hpl : (backTo pos (starEach es X.env)).any (·.1) = false := by rfl) : E X F (.Call (.Name x p) (e :: es) [] pos) Q own ρ := by
  constructor
  intro ls σ H st sr Qv k
  refine (pe_call G hr hg hm hk hb .nil pass0 pa_wa hdb he hpl).to ?_
  refine h ls σ H st sr _ fun ls1 own1 H1 rs vs l1 s1 rr ⟨ds, er, hp, q⟩ => ?_
  subst er
  rw [List.append_nil]
  refine ⟨F.S0 ++ live ls1 own1, ds, s1.hid, RReps.toD rr, hp, fun p H' xs qs sm hn g1 g2 g3 => ?_⟩
  have z := st0_adopt (c := .any (I ds)) s1 sm hn (fun z => by cases z) ⟨xs, qs, g1, g2, g3⟩
  exact k _ _ _ (.c own1.length) _ (l1.trans z.2) z.1 ⟨p, by rw [← s1.len]; simp, rfl⟩ q
end
end DL

namespace DL
open PySem PySem.Spec PyProof.Rows L2
/-! ### defs and methods with what is known of them -/
/-- a def of the module, as it stands -/
structure Df (K : PySem.W.Frag) (mg : Str → Option Value) (x : Str) (st : Stmt) (ps : List Str) (f : Addr) (fd : FuncData) : Prop where
  fn : Fun K x x st f fd
  mg : mg x = some (.ref f)
  bd : Binds K fd ps []
/-- a method of the class, as it stands -/
structure Dm (K : PySem.W.Frag) (C : Addr) (x qual : Str) (st : Stmt) (ps : List Str) (f : Addr) (fd : FuncData) : Prop where
  fn : Fun K x qual st f fd
  at_ : PySem.W.findIn K (.ref C) x = some (some (.ref f))
  isf : PySem.W.isFn K (.ref f) = true
  bd : Binds K fd ps []
/-- a def of the module and its promise -/
def DOk (P : Program) (w : World) (K : PySem.W.Frag) (mg : Str → Option Value) (base : Heap) (CX : CXT) (x : Str) (k : Nat) (sp : Sp) : Prop :=
  ∃ f fd ps, mg x = some (.ref f) ∧ PySem.W.keepIn K (.ref f) = true ∧ FnOk P w K mg base CX k f fd ps sp ∧ Binds K fd ps []
def MOk (P : Program) (w : World) (K : PySem.W.Frag) (mg : Str → Option Value) (base : Heap) (CX : CXT) (C : Addr) (x : Str) (k : Nat) (sp : Sp) : Prop :=
  ∃ f fd ps, PySem.W.findIn K (.ref C) x = some (some (.ref f)) ∧ PySem.W.isFn K (.ref f) = true ∧ PySem.W.keepIn K (.ref f) = true ∧ FnOk P w K mg base CX k f fd ps sp ∧ Binds K fd ps []
/-- the class's making: d the defaults that fill up -/
def IOk (P : Program) (w : World) (K : PySem.W.Frag) (mg : Str → Option Value) (base : Heap) (CX : CXT) (C : Addr) (k : Nat) (dds : List D) (sp : Sp) : Prop :=
  ∃ f fd ps dvs dus, Mk K C f ∧ FnOk P w K mg base CX k f fd ps sp ∧ Binds K fd ps dus ∧ Vals dvs dus ∧ ∀ G, Reps K G dds dvs
section
variable {P : Program} {w : World} {K : PySem.W.Frag} {mg : Str → Option Value} {base : Heap} {CX : CXT} {x qual : Str} {st : Stmt} {ps : List Str} {f C : Addr} {fd : FuncData} {k : Nat} {sp : Sp}
theorem Df.ok (d : Df K mg x st ps f fd) (h : FnOk P w K mg base CX k f fd ps sp) : DOk P w K mg base CX x k sp := ⟨f, fd, ps, d.mg, d.fn.kp, h, d.bd⟩
theorem Dm.ok (d : Dm K C x qual st ps f fd) (h : FnOk P w K mg base CX k f fd ps sp) : MOk P w K mg base CX C x k sp := ⟨f, fd, ps, d.at_, d.isf, d.fn.kp, h, d.bd⟩
end
section
variable {X : Cx} {F : Fm} {own : List Cell} {ρ : Ro} {Q : QE} {QT : QT} {k : Nat} {C : Addr} {pre : List D → Prop} {post : List D → D → Prop} {I : List D → Prop} {I2 : List D → List D → Prop} {x m nm rn : Str} {p pos apos : Pos} {e o : Expr} {es : List Expr} {ns ns' : List Str} {ds ds' : List D} {op : Operator} {i : Int}
theorem E.dcall (G : DOk X.prog X.w X.K X.mg X.base CX0 x k (spF X.K pre post)) (hr : Room k X.A)
    (h : A X F (e :: es) (fun o rs => ∃ ds : List D, rs = ds.map R.d ∧ pre ds ∧ ∀ d, post ds d → Q o (.d d)) own ρ) (hg : Gl X x := by rfl) (hdb : (x == ("__debug__" : Str)) = false := by decide) (he : starEach (e :: es) X.env = (false, eval e X.env) :: starEach es X.env := by rfl)
    (hpl : (backTo pos (starEach es X.env)).any (·.1) = false := by rfl) : E X F (.Call (.Name x p) (e :: es) [] pos) Q own ρ := by
  obtain ⟨f, fd, ps, hm, hk, G, hb⟩ := G
  exact E.call G hr hm hk hb h hg hdb he hpl
theorem E.dcallP (G : DOk X.prog X.w X.K X.mg X.base CX0 x k (spP X.K I pre post)) (hr : Room k X.A)
    (h : A X F (e :: es) (fun o rs => ∃ (n : Nat) (ds : List D), rs = .c n :: ds.map R.d ∧ o[n]? = some (.any I) ∧ pre ds ∧ ∀ d, post ds d → Q o (.d d)) own ρ) (hg : Gl X x := by rfl) (hdb : (x == ("__debug__" : Str)) = false := by decide) (he : starEach (e :: es) X.env = (false, eval e X.env) :: starEach es X.env := by rfl)
    (hpl : (backTo pos (starEach es X.env)).any (·.1) = false := by rfl) : E X F (.Call (.Name x p) (e :: es) [] pos) Q own ρ := by
  obtain ⟨f, fd, ps, hm, hk, G, hb⟩ := G
  exact E.callP G hr hm hk hb h hg hdb he hpl
theorem E.dcallN (G : DOk X.prog X.w X.K X.mg X.base CX0 x k (spN X.K pre I2)) (hr : Room k X.A)
    (h : A X F (e :: es) (fun o rs => ∃ ds : List D, rs = ds.map R.d ∧ pre ds ∧ Q (o ++ [.any (I2 ds)]) (.c o.length)) own ρ) (hg : Gl X x := by rfl) (hdb : (x == ("__debug__" : Str)) = false := by decide) (he : starEach (e :: es) X.env = (false, eval e X.env) :: starEach es X.env := by rfl)
    (hpl : (backTo pos (starEach es X.env)).any (·.1) = false := by rfl) : E X F (.Call (.Name x p) (e :: es) [] pos) Q own ρ := by
  obtain ⟨f, fd, ps, hm, hk, G, hb⟩ := G
  exact E.callN G hr hm hk hb h hg hdb he hpl
/-- C(e, ..) -/
theorem E.dmake {ns : List Str} {dds : List D} {postI : List D → List D → Prop} (G : IOk X.prog X.w X.K X.mg X.base CX0 C k dds (spI X.K C ns pre postI)) (hm : X.mg x = some (.ref C)) (hr : Room (k + 1) X.A)
    (h : A X F (e :: es) (fun o rs => ∃ ds : List D, rs = ds.map R.d ∧ pre (ds ++ dds) ∧ ∀ fs, postI (ds ++ dds) fs → Q o (.d (.ins C ns fs))) own ρ) (hg : Gl X x := by rfl) (hdb : (x == ("__debug__" : Str)) = false := by decide) (he : starEach (e :: es) X.env = (false, eval e X.env) :: starEach es X.env := by rfl)
    (hpl : (backTo pos (starEach es X.env)).any (·.1) = false := by rfl) : E X F (.Call (.Name x p) (e :: es) [] pos) Q own ρ := by
  obtain ⟨f, fd, ps, dvs, dus, M, G, hb, hv, hd⟩ := G
  exact E.make M G hr hm hb hv hd h hg hdb he hpl
theorem E.dmakeX {ns : List Str} {dds : List D} {postI : List D → List D → Prop} {exc : List D → Value → Prop} {XC : Value → List Cell → Ro → Prop} (tk : Tk X F XC) (G : IOk X.prog X.w X.K X.mg X.base (L2.CX X.prog X.w) C k dds (spIX X.K C ns pre postI exc)) (hm : X.mg x = some (.ref C)) (hr : Room (k + 1) X.A)
    (h : A X F (e :: es) (fun o rs => ∃ ds : List D, rs = ds.map R.d ∧ pre (ds ++ dds) ∧ (∀ fs, postI (ds ++ dds) fs → Q o (.d (.ins C ns fs))) ∧ ∀ cls, exc (ds ++ dds) cls → XC cls o ρ) own ρ) (hg : Gl X x := by rfl) (hdb : (x == ("__debug__" : Str)) = false := by decide) (he : starEach (e :: es) X.env = (false, eval e X.env) :: starEach es X.env := by rfl)
    (hpl : (backTo pos (starEach es X.env)).any (·.1) = false := by rfl) : E X F (.Call (.Name x p) (e :: es) [] pos) Q own ρ := by
  obtain ⟨f, fd, ps, dvs, dus, M, G, hb, hv, hd⟩ := G
  exact E.makeX tk M G hr hm hb hv hd h hg hdb he hpl
theorem E.dmeth {pl : Sem Bool} (c : Cls X.K C) (G : MOk X.prog X.w X.K X.mg X.base CX0 C m k (spF X.K pre post)) (hr : Room k X.A)
    (h : E X F o (fun o1 r => ∃ ns ds0, r = .d (.ins C ns ds0) ∧ (ns.zip ds0).lookup m = none ∧ A X F (e :: es) (fun o2 rs => ∃ ds : List D, rs = ds.map R.d ∧ pre (.ins C ns ds0 :: ds) ∧ ∀ d, post (.ins C ns ds0 :: ds) d → Q o2 (.d d)) o1 ρ) own ρ)
    (hst : starEach (e :: es) X.env = (false, eval e X.env) :: starEach es X.env := by rfl) (hpl : (backTo pos (starEach es X.env)).any (·.1) = false := by rfl)
    (ht : eval (.Call (.Attribute o m apos) (e :: es) [] pos) X.env = (do
      let ov ← eval o X.env
      standAt apos.atName
      let (f, first) ← holding [ov] (getMethod ov m pl)
      callWith pos f first (backTo pos (starEach (e :: es) X.env)) (backToKw pos (keywordEach [] X.env))) := by rfl) : E X F (.Call (.Attribute o m apos) (e :: es) [] pos) Q own ρ := by
  obtain ⟨f, fd, ps, h1, h2, h3, G, hb⟩ := G
  exact E.meth (pl := pl) c ⟨h1, h2, h3⟩ G hr hb h hst hpl ht
theorem E.dmeth0 {pl : Sem Bool} (c : Cls X.K C) (G : MOk X.prog X.w X.K X.mg X.base CX0 C m k (spF X.K pre post)) (hr : Room k X.A)
    (h : E X F o (fun o1 r => ∃ ns ds0, r = .d (.ins C ns ds0) ∧ (ns.zip ds0).lookup m = none ∧ pre [.ins C ns ds0] ∧ ∀ d, post [.ins C ns ds0] d → Q o1 (.d d)) own ρ)
    (ht : eval (.Call (.Attribute o m apos) [] [] pos) X.env = (do
      let ov ← eval o X.env
      standAt apos.atName
      let (f, first) ← holding [ov] (getMethod ov m pl)
      callWith pos f first (backTo pos (starEach [] X.env)) (backToKw pos (keywordEach [] X.env))) := by rfl) : E X F (.Call (.Attribute o m apos) [] [] pos) Q own ρ := by
  obtain ⟨f, fd, ps, h1, h2, h3, G, hb⟩ := G
  exact E.meth0 (pl := pl) c ⟨h1, h2, h3⟩ G hr hb h ht
theorem E.dmethX {pl : Sem Bool} {exc : List D → Value → Prop} {XC : Value → List Cell → Ro → Prop} (tk : Tk X F XC) (c : Cls X.K C) (G : MOk X.prog X.w X.K X.mg X.base (L2.CX X.prog X.w) C m k (spX X.K pre post exc)) (hr : Room k X.A)
    (h : E X F o (fun o1 r => ∃ ns ds0, r = .d (.ins C ns ds0) ∧ (ns.zip ds0).lookup m = none ∧ A X F (e :: es) (fun o2 rs => ∃ ds : List D, rs = ds.map R.d ∧ pre (.ins C ns ds0 :: ds) ∧ (∀ d, post (.ins C ns ds0 :: ds) d → Q o2 (.d d)) ∧ ∀ cls, exc (.ins C ns ds0 :: ds) cls → XC cls o2 ρ) o1 ρ) own ρ)
    (hst : starEach (e :: es) X.env = (false, eval e X.env) :: starEach es X.env := by rfl) (hpl : (backTo pos (starEach es X.env)).any (·.1) = false := by rfl)
    (ht : eval (.Call (.Attribute o m apos) (e :: es) [] pos) X.env = (do
      let ov ← eval o X.env
      standAt apos.atName
      let (f, first) ← holding [ov] (getMethod ov m pl)
      callWith pos f first (backTo pos (starEach (e :: es) X.env)) (backToKw pos (keywordEach [] X.env))) := by rfl) : E X F (.Call (.Attribute o m apos) (e :: es) [] pos) Q own ρ := by
  obtain ⟨f, fd, ps, h1, h2, h3, G, hb⟩ := G
  exact E.methX (pl := pl) tk c ⟨h1, h2, h3⟩ G hr hb h hst hpl ht
theorem O2.dB (hc : PySem.W.selfFirst X.K C = true) (hd : PySem.dunder op.info.2 = nm) (G : MOk X.prog X.w X.K X.mg X.base CX0 C nm k (spF X.K pre post)) (hr : Room k X.A)
    (hp : pre [.ins C ns ds, .ins C ns' ds']) (h : ∀ d, post [.ins C ns ds, .ins C ns' ds'] d → Q own (.d d)) : O2 X F (.bin op) (.d (.ins C ns ds)) (.d (.ins C ns' ds')) Q own := by
  subst hd
  obtain ⟨f, fd, ps, h1, h2, h3, G, hb⟩ := G
  exact O2.ownB hc h1 h2 G hr hb hp h
theorem O2.dI {sp2 : Sp} {k2 : Nat} {CX : CXT} (hc : PySem.W.selfFirst X.K C = true) (hd : PySem.dunder op.info.2 = nm) (hd2 : dunderR op.info.2 = rn) (G : MOk X.prog X.w X.K X.mg X.base CX0 C nm k (spF X.K pre post)) (G2 : MOk X.prog X.w X.K X.mg X.base CX C rn k2 sp2) (hr : Room k X.A)
    (h1 : ∃ fo, PySem.W.findIn X.K (.type "int") nm = some fo) (h2 : ∃ ro, PySem.W.findIn X.K (.type "int") rn = some ro) (hsub : PySem.W.subIn X.K (.type "int") (.ref C) = some false)
    (hp : pre [.ins C ns ds, .int i]) (h : ∀ d, post [.ins C ns ds, .int i] d → Q own (.d d)) : O2 X F (.bin op) (.d (.ins C ns ds)) (.d (.int i)) Q own := by
  subst hd; subst hd2
  obtain ⟨f, fd, ps, a1, a2, a3, G, hb⟩ := G
  obtain ⟨g, _, _, b1, _⟩ := G2
  obtain ⟨fo, h1⟩ := h1
  obtain ⟨ro, h2⟩ := h2
  exact O2.ownI hc a1 a2 b1 (.inr ⟨g, rfl⟩) h1 h2 hsub G hr hb hp h
theorem O2.dR {idl : String} {B : Builtin} {sp2 : Sp} {k2 : Nat} {CX : CXT} (hc : PySem.W.selfFirst X.K C = true) (hd : PySem.dunder op.info.2 = nm) (hd2 : dunderR op.info.2 = rn) (G : MOk X.prog X.w X.K X.mg X.base CX0 C rn k (spF X.K pre post)) (G2 : MOk X.prog X.w X.K X.mg X.base CX C nm k2 sp2) (hr : Room k X.A)
    (hfill : fillsNumberSlot (.type "int") op.info.2 = pure true) (slot : Slot "int" nm idl) (entry : entryFor table idl = some B) (args : ∀ i t x, argsOk idl ⟨[.int i t, .ref x], []⟩) (dc : ∀ i t x dx, Own.Decl X.prog X.w B i t x C dx)
    (hsub : PySem.W.subIn X.K (.ref C) (.type "int") = some false) (hp : pre [.ins C ns ds, .int i]) (h : ∀ d, post [.ins C ns ds, .int i] d → Q own (.d d)) : O2 X F (.bin op) (.d (.int i)) (.d (.ins C ns ds)) Q own := by
  subst hd; subst hd2
  obtain ⟨f, fd, ps, a1, a2, a3, G, hb⟩ := G
  obtain ⟨g, _, _, b1, _⟩ := G2
  exact O2.ownR hc b1 a1 a2 hfill slot entry args dc hsub G hr hb hp h
theorem O1.dN (G : MOk X.prog X.w X.K X.mg X.base CX0 C "__neg__" k (spF X.K pre post)) (hr : Room k X.A) (hp : pre [.ins C ns ds]) (h : ∀ d, post [.ins C ns ds] d → Q own (.d d)) : O1 X F .USub (.d (.ins C ns ds)) Q own := by
  obtain ⟨f, fd, ps, a1, a2, a3, G, hb⟩ := G
  exact O1.ownN a1 a2 G hr hb hp h
theorem Cl.dAbs (G : MOk X.prog X.w X.K X.mg X.base CX0 C "__abs__" k (spF X.K pre post)) (hr : Room (k + 1) X.A) (hp : pre [.ins C ns ds]) (h : ∀ d, post [.ins C ns ds] d → Q own (.d d)) : Cl X F (.builtin "abs") [.d (.ins C ns ds)] Q own := by
  obtain ⟨f, fd, ps, a1, a2, a3, G, hb⟩ := G
  exact Cl.absO a1 a2 G hr hb hp h
theorem Cl.dBool (G : MOk X.prog X.w X.K X.mg X.base CX0 C "__bool__" k (spF X.K pre post)) (hr : Room (k + 2) X.A) (hp : pre [.ins C ns ds]) (h : ∀ d, post [.ins C ns ds] d → ∃ b, d = .bl b ∧ Q own (.d (.bl b))) : Cl X F (.type "bool") [.d (.ins C ns ds)] Q own := by
  obtain ⟨f, fd, ps, a1, a2, a3, G, hb⟩ := G
  exact Cl.boolO a1 a2 G hr hb hp h
theorem Tr.dT (G : MOk X.prog X.w X.K X.mg X.base CX0 C "__bool__" k (spF X.K pre post)) (hr : Room k X.A) (hp : pre [.ins C ns ds]) (h : ∀ d, post [.ins C ns ds] d → ∃ b, d = .bl b ∧ QT own b) : Tr X F (.d (.ins C ns ds)) QT own := by
  obtain ⟨f, fd, ps, a1, a2, a3, G, hb⟩ := G
  exact Tr.ownT a1 a2 G hr hb hp h
theorem O2.dEq {ns' : List Str} {ds' : List D} (G : MOk X.prog X.w X.K X.mg X.base CX0 C "__eq__" k (spF X.K pre post)) (hr : Room k X.A) (hn : PySem.W.notFirst X.K C (.ref C) = true) (hp : pre [.ins C ns ds, .ins C ns' ds']) (h : ∀ d, post [.ins C ns ds, .ins C ns' ds'] d → Q own (.d d)) : O2 X F (.cmp .Eq) (.d (.ins C ns ds)) (.d (.ins C ns' ds')) Q own := by
  obtain ⟨f, fd, ps, a1, a2, a3, G, hb⟩ := G
  exact O2.ownEq ty_ins hn a1 a2 G hr hb hp h
theorem O2.dEqI (G : MOk X.prog X.w X.K X.mg X.base CX0 C "__eq__" k (spF X.K pre post)) (hr : Room k X.A) (hn : PySem.W.notFirst X.K C (.type "int") = true) (hp : pre [.ins C ns ds, .int i]) (h : ∀ d, post [.ins C ns ds, .int i] d → Q own (.d d)) : O2 X F (.cmp .Eq) (.d (.ins C ns ds)) (.d (.int i)) Q own := by
  obtain ⟨f, fd, ps, a1, a2, a3, G, hb⟩ := G
  exact O2.ownEq ty_int hn a1 a2 G hr hb hp h
theorem O2.dEqR (G : MOk X.prog X.w X.K X.mg X.base CX0 C "__eq__" k (spF X.K pre post)) (hr : Room k X.A) (hsub : PySem.W.subIn X.K (.ref C) (.type "int") = some false) (hp : pre [.ins C ns ds, .int i]) (h : ∀ d, post [.ins C ns ds, .int i] d → Q own (.d d)) : O2 X F (.cmp .Eq) (.d (.int i)) (.d (.ins C ns ds)) Q own := by
  obtain ⟨f, fd, ps, a1, a2, a3, G, hb⟩ := G
  exact O2.ownEqR a1 a2 hsub G hr hb hp h
theorem O2.dNeI (G : MOk X.prog X.w X.K X.mg X.base CX0 C "__eq__" k (spF X.K pre post)) (hr : Room (k + 1) X.A) (hn : PySem.W.notFirst X.K C (.type "int") = true) (hne : PySem.W.findIn X.K (.ref C) "__ne__" = some (some (.builtin "object.__ne__"))) (hobj : PySem.W.subIn X.K (.ref C) (.type "object") = some true)
    (hp : pre [.ins C ns ds, .int i]) (h : ∀ d, post [.ins C ns ds, .int i] d → ∃ b, d = .bl b ∧ Q own (.d (.bl (!b)))) : O2 X F (.cmp .NotEq) (.d (.ins C ns ds)) (.d (.int i)) Q own := by
  obtain ⟨f, fd, ps, a1, a2, a3, G, hb⟩ := G
  exact O2.ownNe ty_int hn a1 hne a2 hobj G hr hb hp h
end
end DL

namespace DL.Own
open PySem PySem.W PySem.Calls PyProof.Rows
section
variable {prog : Program} {w : World} {A : Around} {E : Value → Shared → Prop} {s : Shared} {K : Frag} {x C L f : Addr} {h₀ : Heap} {m : Str → Option Value} {od : Option Obj} {dx : Addr}
set_option maxHeartbeats 2000000 in
/-- None == instance: the instance's own == -/
theorem rnon_K {Q : Value → Shared → Prop} (hu : A.units < cLine) (F : Fr h₀ L s.heap m) (X₀ : K.In h₀) (I : InstAt s.heap x (instObj C dx) C od) (hs : findIn K (.ref C) "__eq__" = some (some (.ref f))) (hf : isFn K (.ref f) = true) (hsub : subIn K (.ref C) (.type "NoneType") = some false)
    (h : wpAny (model prog w) A (call (.ref f) [.ref x, .none]) (PySem.W.CmpBack Q) E s) : wpAny (model prog w) A (richCompare .Eq .none (.ref x)) Q E s := by
  have X := X₀.keeps F.keep
  have one : wpAny (model prog w) A (tryCompare (.ref x) "__eq__" .none) (fun r s' => ∃ v, r = some v ∧ Q v s') E s := by
    unfold tryCompare
    refine wpAny_bind (ifBound_K X I hs hf (wpAny_mono h (fun v s' hv => ?_) fun _ _ e => e))
    cases v <;> first | exact hv.elim | exact wpAny_pure ⟨_, rfl, hv⟩
  have two : ∀ {Q' : Option Value → Shared → Prop}, Q' none s → wpAny (model prog w) A (tryCompare .none "__eq__" (.ref x)) Q' E s := fun {Q'} q =>
    wpAny_tryCompare_declines (show s.TypeIs .none "NoneType" from rfl) PySem.F.slot_NoneType_eq (call_gives PySem.F.slot_NoneType_eq rfl PySem.F.entry_NoneType_eq (PySem.F.args_NoneType_eq_2 _ _) (PySem.SeqAt.NoneType___eq___none_ref_0 x) ⟨rfl, q⟩)
  unfold richCompare
  refine wpAny_holding (wpAny_bind (wpAny_cRoomFor hu ?_))
  have eo : oneThing? .Eq .none (.ref x) = none := by rfl
  rw [eo]
  have hne : (Value.type "NoneType" != Value.ref C) = true := by
    rw [bne, Bool.not_eq_true']
    exact Bool.eq_false_iff.mpr fun q => by cases beq_iff_eq.mp q
  have L1 : Looks (model prog w) s.heap (typeOf (.ref x)) (.ref C) := I.type
  have L2 : Looks (model prog w) s.heap (typeOf .none) (.type "NoneType") := Looks.of_pure rfl
  refine wpAny_bind (L2.here (wpAny_bind (L1.here ?_)))
  rw [hne]
  simp only [if_true]
  refine wpAny_bind ((looks_subIn X hsub).here ?_)
  simp only [Bool.false_eq_true, if_false, Bool.not_false, if_true]
  refine wpAny_bind (two ?_)
  refine wpAny_bind (wpAny_mono one (fun r s' z => ?_) fun _ _ e => e)
  obtain ⟨v, rfl, hq⟩ := z
  exact wpAny_pure hq
end
end DL.Own
namespace DL
open PySem PySem.Spec PyProof.Rows L2
/-! ### is None -/
def isNon : D → Bool
  | .non => true
  | _ => false
theorem rep_isNon {K : PySem.W.Frag} {G : Hp} {d : D} {v : V} (h : Rep K G d v) : decide (v = V.non) = isNon d := by
  cases d <;> simp only [Rep] at h
  case non => subst h; rfl
  case bl => subst h; rfl
  case int => subst h; rfl
  case str => subst h; rfl
  case ty => subst h; rfl
  case ref => subst h; rfl
  case tup => obtain ⟨p, xs, rfl, _⟩ := h; rfl
  case lst => obtain ⟨p, xs, rfl, _⟩ := h; rfl
  case rol => obtain ⟨p, xs, rfl, _⟩ := h; rfl
  case ins => obtain ⟨p, dx, xs, rfl, _⟩ := h; rfl
section
variable {X : Cx} {F : Fm} {own : List Cell} {ρ : Ro} {Q : QE} {QT : QT} {x : D}
theorem O2.isN (h : Q own (.d (.bl (isNon x)))) : O2 X F (.cmp .Is) (.d x) (.d .non) Q own := by
  constructor
  intro ls H u v st rx ry Qv k
  cases rr_non ry
  exact op_isN.to ⟨rfl, k _ _ _ (.d (.bl _)) _ Le.refl st ir_bl (by rw [rep_isNon rx]; exact h)⟩
theorem O2.notN (h : Q own (.d (.bl (!isNon x)))) : O2 X F (.cmp .IsNot) (.d x) (.d .non) Q own := by
  constructor
  intro ls H u v st rx ry Qv k
  cases rr_non ry
  exact op_notN.to ⟨rfl, k _ _ _ (.d (.bl _)) _ Le.refl st ir_bl (by rw [rep_isNon rx]; exact h)⟩
theorem O2.eqNN (h : Q own (.d (.bl true))) : O2 X F (.cmp .Eq) (.d .non) (.d .non) Q own := by
  constructor
  intro ls H u v st rx ry Qv k
  cases rr_non rx
  cases rr_non ry
  exact op_eq.to ⟨rfl, k _ _ _ (.d (.bl _)) _ Le.refl st ir_bl (by exact h)⟩
/-! ### isinstance, for data of any kind -/
structure TyD (X : Cx) (d : D) (t : Value) : Prop where
  run : ∀ (G H : Hp) (v : V), Same G H → Rep X.K G d v → TyX X.K H v t
theorem TyD.non : TyD X .non (.type "NoneType") := ⟨fun G H v _ h => by simp only [Rep] at h; subst h; exact .base .non⟩
theorem TyD.bl {b : Bool} : TyD X (.bl b) (.type "bool") := ⟨fun G H v _ h => by simp only [Rep] at h; subst h; exact .base (.bl b)⟩
theorem TyD.int {i : Int} : TyD X (.int i) (.type "int") := ⟨fun G H v _ h => by simp only [Rep] at h; subst h; exact .base (.int i)⟩
theorem TyD.str {s : Str} : TyD X (.str s) (.type "str") := ⟨fun G H v _ h => by simp only [Rep] at h; subst h; exact .base (.str s)⟩
theorem TyD.lst {ds : List D} : TyD X (.lst ds) (.type "list") := ⟨fun G H v e h => by
  simp only [Rep] at h
  obtain ⟨p, xs, rfl, h1, _⟩ := h
  exact .base (.lst (e _ _ h1))⟩
theorem TyD.tup {ds : List D} : TyD X (.tup ds) (.type "tuple") := ⟨fun G H v e h => by
  simp only [Rep] at h
  obtain ⟨p, xs, rfl, h1, _⟩ := h
  rcases h1 with (h1 | ⟨o, h1⟩) | ⟨o, its, n, h1, h2, _⟩
  · exact .base (.tup (e _ _ h1))
  · exact .fTuple (e _ _ h1)
  · exact .kTuple h1 h2⟩
theorem TyD.ins {C : Addr} {ns : List Str} {ds : List D} (T : IsC X.K C) : TyD X (.ins C ns ds) (.ref C) := ⟨fun G H v e h => by
  simp only [Rep] at h
  obtain ⟨p, dx, xs, rfl, h1, _⟩ := h
  exact .base (.ins (e _ _ h1) T.cl T.ha T.hn T.htk T.hm)⟩
theorem Cl.isi {c : D} {t u : Value} {b : Bool} (ty : TyD X x t) (hc : ∀ G v, Rep X.K G c v → ClsV v u) (hk : PySem.W.kitOne X.K t u = some b) (h : Q own (.d (.bl b))) : Cl X F (.builtin "isinstance") [.d x, .d c] Q own := by
  constructor
  intro ls H vs st rr Qv k
  obtain ⟨v, w, rfl, rv, rw'⟩ := rrs2 rr
  exact call_isi.to ⟨_, w, _, u, b, rfl, hc _ _ rw', ty.run _ _ _ (msk_same _ _) rv, hk, k _ _ _ (.d (.bl b)) _ Le.refl st ir_bl h⟩
/-- isinstance(e, (c1, ..)) -/
theorem E.isiT {e : Expr} {cs : List Expr} {p pos tp : Pos} {k0 : Nat} (hm : X.mg "isinstance" = none) (h : E X F e (fun o r => ∃ x t, r = .d x ∧ TyD X x t ∧ A X F cs (fun o2 rs => ∃ (ds : List D) (us : List Value) (b : Bool), rs = ds.map R.d ∧ ds.length ≤ sizeLine ∧ (∀ G vs, Reps X.K G ds vs → Paired ClsV vs us) ∧ PySem.W.kitAny X.K t us = some b ∧ Q o2 (.d (.bl b))) o ρ) own ρ)
    (hv : bootBuiltins "isinstance" = some (.builtin "isinstance") := by decide +kernel) (hg : Gl X "isinstance" := by rfl)
    (he : starEach [e, .Tuple cs k0 tp] X.env = (false, eval e X.env) :: starEach [.Tuple cs k0 tp] X.env := by rfl) (he2 : starEach [.Tuple cs k0 tp] X.env = (false, eval (.Tuple cs k0 tp) X.env) :: starEach [] X.env := by rfl) (hpl : (backTo pos (starEach [.Tuple cs k0 tp] X.env)).any (·.1) = false := by rfl) :
    E X F (.Call (.Name "isinstance" p) [e, .Tuple cs k0 tp] [] pos) Q own ρ := by
  constructor
  intro ls σ H st sr Qv k
  refine (pe_callB call_isiT hg hm hv (pa_cons pe_we (pa_cons (pe_tup pa_wa) pa_nil he2) he) (by decide) (by decide) he hpl).to ?_
  refine h ls σ H st sr _ fun ls1 own1 H1 r u l1 s1 rr ⟨x, t, er, ty, ha⟩ => ?_
  subst er
  refine ha ls1 σ H1 s1 (sr.up l1.pre l1.same) _ fun ls2 own2 H2 rs vs l2 s2 rr2 ⟨ds, us, b, er, hl, hc, hk, q⟩ => ?_
  subst er
  have rd := RReps.toD rr2
  refine ⟨by rw [← rd.length]; exact hl, fun p hp => ?_⟩
  refine ⟨_, p, vs, t, us, b, rfl, upd_same, hc _ _ rd, ty.run _ _ _ (((msk_same _ _)).trans (same_new hp)) (rr.up l2.pre l2.same), hk, ?_⟩
  exact k _ _ _ (.d (.bl b)) _ ((l1.trans l2).trans (Le.grow (same_new hp))) (s2.grow (same_new hp)) ir_bl q
end
/-! ### own classes: None, in -/
section
variable {X : Cx} {F : Fm} {own : List Cell} {ρ : Ro} {Q : QE} {k : Nat} {C : Addr} {pre : List D → Prop} {post : List D → D → Prop} {ns : List Str} {ds : List D} {y : D}
theorem ty_non (ls : List Addr) (own : List Cell) (H : Hp) (v : V) (pins : List (Addr × Obj)) (σ : L2.St) (s : Shared) (u : Value) (h : RRep X.K ls (F.g ls own H) (.d .non) v) (_ : Inv X pins σ H s) (r : RelV v u) : PySem.W.Looks (model X.prog X.w) s.heap (typeOf u) (.type "NoneType") := by
  cases rr_non h
  cases r
  exact PySem.W.Looks.of_pure rfl
theorem O2.dEqN (G : MOk X.prog X.w X.K X.mg X.base CX0 C "__eq__" k (spF X.K pre post)) (hr : Room k X.A) (hn : PySem.W.notFirst X.K C (.type "NoneType") = true) (hp : pre [.ins C ns ds, .non]) (h : ∀ d, post [.ins C ns ds, .non] d → Q own (.d d)) : O2 X F (.cmp .Eq) (.d (.ins C ns ds)) (.d .non) Q own := by
  obtain ⟨f, fd, ps, a1, a2, a3, G, hb⟩ := G
  exact O2.ownEq ty_non hn a1 a2 G hr hb hp h
theorem O2.dNEq (G : MOk X.prog X.w X.K X.mg X.base CX0 C "__eq__" k (spF X.K pre post)) (hr : Room k X.A) (hsub : PySem.W.subIn X.K (.ref C) (.type "NoneType") = some false) (hp : pre [.ins C ns ds, .non]) (h : ∀ d, post [.ins C ns ds, .non] d → Q own (.d d)) : O2 X F (.cmp .Eq) (.d .non) (.d (.ins C ns ds)) Q own := by
  obtain ⟨f, fd, ps, a1, a2, a3, G, hb⟩ := G
  constructor
  intro ls H u v st rx ry Qv kk pins σ s uu vv I ru rv
  obtain ⟨a, dx, fs, rfl, ha⟩ := ins_at st ry
  cases rr_non rx
  cases rv
  cases ru
  obtain ⟨mA, J, _⟩ := ins_get I.hok ha
  obtain ⟨od, J, _⟩ := J.look
  obtain ⟨m, hF⟩ := I.fr
  show wpAny (model X.prog X.w) X.A (richCompare .Eq .none (.ref a)) (EP X pins σ Qv) X.xe s
  refine Own.rnon_K hr.units0 hF I.ok.mod.kin J a1 a2 hsub ?_
  exact thn (run_at (vs := [.ref a, .non]) G rfl hr hb I (.cons rfl (.cons rfl .nil)) (spF_use st (Reps.cons ry (Reps.cons rx Reps.nil)) hp kk h _)) fun u s q => ep_back q
/-- y in x by __contains__ -/
theorem O2.dIn (G : MOk X.prog X.w X.K X.mg X.base CX0 C "__contains__" k (spF X.K pre post)) (hr : Room k X.A) (hp : pre [.ins C ns ds, y]) (h : ∀ d, post [.ins C ns ds, y] d → ∃ b, d = .bl b ∧ Q own (.d (.bl b))) : O2 X F (.cmp .In) (.d y) (.d (.ins C ns ds)) Q own := by
  obtain ⟨f, fd, ps, a1, a2, a3, G, hb⟩ := G
  constructor
  intro ls H u v st rx ry Qv kk pins σ s uu vv I ru rv
  obtain ⟨a, dx, fs, rfl, ha⟩ := ins_at st ry
  cases rv
  obtain ⟨mA, J, _⟩ := ins_get I.hok ha
  obtain ⟨od, J, _⟩ := J.look
  obtain ⟨m, hF⟩ := I.fr
  show wpAny (model X.prog X.w) X.A (compareOp .In uu (.ref a)) (EP X pins σ Qv) X.xe s
  refine PySem.W.in_K hF I.ok.mod.kin J a1 a2 ?_
  refine thn (run_at (vs := [.ref a, u]) G rfl hr hb I (.cons rfl (.cons ru .nil)) (spF_use (Q := fun o r => ∃ b, r = .d (.bl b) ∧ Q o (.d (.bl b))) st (Reps.cons ry (Reps.cons rx Reps.nil)) hp (Qv := fun v H' => ∃ b, v = .bl b ∧ Qv (.bl b) H') (fun ls' own' H' r v l s1 rr ⟨b, e, q⟩ => by subst e; exact ⟨b, rr_bl rr, kk _ _ _ (.d (.bl b)) _ l s1 ir_bl q⟩) (fun d hd => by obtain ⟨b, rfl, q⟩ := h d hd; exact ⟨b, rfl, q⟩) _)) fun u s q => ?_
  obtain ⟨v, H', I', r, b, rfl, q⟩ := q
  cases r
  exact wpAny_truthy_bool ⟨.bl b, H', I', rfl, q⟩
end
/-! ### lists of flat data, unlike -/
section
variable {X : Cx} {F : Fm} {own : List Cell} {ρ : Ro} {Q : QE} {P : Po} {e a b tg : Expr} {es : List Expr} {pos : Pos} {body : List Stmt}
theorem O2.neL {xs ys : List FlatD} {a b : List D} {r : Bool} (hu : X.A.units + 64 < cLine) (ha : a = xs.map FlatD.d) (hb : b = ys.map FlatD.d) (sa : SeqAt.shaped (.list (xs.map FlatD.p)) = true) (sb : SeqAt.shaped (.list (ys.map FlatD.p)) = true) (hr : PyData.eqv (.list (xs.map FlatD.p)) (.list (ys.map FlatD.p)) = r) (h : Q own (.d (.bl (!r)))) :
    O2 X F (.cmp .NotEq) (.d (.lst a)) (.d (.lst b)) Q own := by
  constructor
  subst ha; subst hb
  intro ls H u v st rx ry Qv k
  obtain ⟨p, vs, rfl, hs, hv⟩ := lst_rr rx
  obtain ⟨q, ws, rfl, hs', hw⟩ := lst_rr ry
  exact (op_neD hu).to ⟨_, _, .lst (sq_h hs) (dp_flat hv), .lst (sq_h hs') (dp_flat hw), sa, sb, k _ _ _ (.d (.bl _)) _ Le.refl st ir_bl (by rw [hr]; exact h)⟩
/-! ### zip -/
theorem W1.forZL {e2 : Expr} {elts : List Expr} {kk : Nat} {tp p cp : Pos} (I : Nat → List Cell → Ro → Prop) (hm : X.mg "zip" = none) (hc : X.calm = true) (hp : PassesOwn (model X.prog X.w) X.A X.env X.xe)
    (h : A X F [e, e2] (fun o rs => ∃ xs ys : List D, rs = [.d (.lst xs), .d (.lst ys)] ∧ xs.length = ys.length ∧ I 0 o ρ ∧ (∀ i x y o' ρ', xs[i]? = some x → ys[i]? = some y → I i o' ρ' → Tg X F (.Tuple elts kk tp) (.d (.tup [x, y])) (fun o2 ρ2 => W X F body { nx := I (i + 1), rt := P.rt, bk := P.nx, ct := I (i + 1) } o2 ρ2) o' ρ') ∧ ∀ o' ρ', I xs.length o' ρ' → P.nx o' ρ') own ρ)
    (hg : Gl X "zip" := by rfl) (hs : ∀ x, foldedSetIterable (.Call (.Name "zip" p) [e, e2] [] cp) X.env x = pure x := by intro _; rfl) (he : starEach [e, e2] X.env = (false, eval e X.env) :: starEach [e2] X.env := by rfl) (hpl : (backTo cp (starEach [e2] X.env)).any (·.1) = false := by rfl) :
    W1 X F (.For (.Tuple elts kk tp) (.Call (.Name "zip" p) [e, e2] [] cp) body [] pos) P own ρ := by
  constructor
  intro ls σ H s0 sr De k
  refine (ps_for hp hc (RZ.pi_zipA hg hm pa_wa he hpl) pg_w pss_ws hs).to ?_
  refine h ls σ H s0 sr _ fun ls1 own1 H1 rs vs l1 s1 rr ⟨xs, ys, er, hl, i0, turn, fin⟩ => ?_
  subst er
  obtain ⟨v, w, rfl, rv, rw'⟩ := rrs2 rr
  obtain ⟨pa, xv, rfl, hq, hr⟩ := lst_rr rv
  obtain ⟨pb, yv, rfl, hq', hr'⟩ := lst_rr rw'
  refine ⟨pa, pb, xv, yv, rfl, .inl ⟨sq_h hq, sq_h hq', ?_⟩⟩
  have st2 : ∀ {i : Nat} {σ' : L2.St} {H' : Hp}, Pv X F ls1 own1 H1 I i σ' H' → SqL X.K H' pa xv ∧ SqL X.K H' pb yv := fun ⟨_, _, _, l, _⟩ => ⟨sq_h (l.same _ _ hq), sq_h (l.same _ _ hq')⟩
  refine RZ.for_zipL (xs := xv) (ys := yv) (by rw [← hr.length, ← hr'.length]; exact hl) (Pv X F ls1 own1 H1 I) ⟨ls1, own1, ρ, Le.refl, s1, sr.up l1.pre l1.same, i0⟩ (fun i σ' H' p => st2 p) ?_ ?_
  · rintro i x y T σ' H' hx hy ⟨ls2, own2, ρ2, l2, s2, sr2, ii⟩ hT
    have hi : i < xs.length := by rw [hr.length]; exact (List.getElem?_eq_some_iff.mp hx).1
    have hi' : i < ys.length := by omega
    have hdi : xs[i]? = some xs[i] := List.getElem?_eq_getElem hi
    have hdj : ys[i]? = some ys[i] := List.getElem?_eq_getElem hi'
    obtain ⟨x', e1, e2⟩ := hr.get hdi
    obtain ⟨y', f1, f2⟩ := hr'.get hdj
    rw [hx] at e1
    rw [hy] at f1
    cases e1; cases f1
    have gr := Le.grow (F := F) (ls := ls2) (own := own2) (same_new (o := .tup [x, y]) hT)
    refine turn i _ _ own2 ρ2 hdi hdj ii ls2 σ' _ (.ref T) (s2.grow (same_new hT)) (sr2.up gr.pre gr.same) (by simp only [RRep, Rep]; exact ⟨T, [x, y], rfl, .inl (.inl (s2.seen hT)), Reps.mono gr.same (Reps.mono l2.same (Reps.cons e2 (Reps.cons f2 Reps.nil)))⟩) _ fun ls3 own3 H3 ρ3 σ3 l3 s3 sr3 q => ?_
    exact q ls3 σ3 H3 s3 sr3 _ ⟨fun _ _ _ _ _ l s r q => ⟨_, _, _, ((l2.trans gr).trans l3).trans l, s, r, q⟩, fun _ _ _ _ _ l s r q => k.rt _ _ _ _ _ (l1.trans (((l2.trans gr).trans l3).trans l)) s r q, fun _ _ _ _ _ l s r q => k.nx _ _ _ _ _ (l1.trans (((l2.trans gr).trans l3).trans l)) s r q, fun _ _ _ _ _ l s r q => ⟨_, _, _, ((l2.trans gr).trans l3).trans l, s, r, q⟩⟩
  · rintro σ' H' ⟨ls2, own2, ρ2, l2, s2, sr2, ii⟩
    rw [← hr.length] at ii
    exact k.nx _ _ _ _ _ (l1.trans l2) s2 sr2 (fin _ _ ii)
theorem W1.forZT {e2 : Expr} {elts : List Expr} {kk : Nat} {tp p cp : Pos} (I : Nat → List Cell → Ro → Prop) (hm : X.mg "zip" = none) (hc : X.calm = true) (hp : PassesOwn (model X.prog X.w) X.A X.env X.xe)
    (h : A X F [e, e2] (fun o rs => ∃ xs ys : List D, rs = [.d (.tup xs), .d (.tup ys)] ∧ xs.length = ys.length ∧ I 0 o ρ ∧ (∀ i x y o' ρ', xs[i]? = some x → ys[i]? = some y → I i o' ρ' → Tg X F (.Tuple elts kk tp) (.d (.tup [x, y])) (fun o2 ρ2 => W X F body { nx := I (i + 1), rt := P.rt, bk := P.nx, ct := I (i + 1) } o2 ρ2) o' ρ') ∧ ∀ o' ρ', I xs.length o' ρ' → P.nx o' ρ') own ρ)
    (hg : Gl X "zip" := by rfl) (hs : ∀ x, foldedSetIterable (.Call (.Name "zip" p) [e, e2] [] cp) X.env x = pure x := by intro _; rfl) (he : starEach [e, e2] X.env = (false, eval e X.env) :: starEach [e2] X.env := by rfl) (hpl : (backTo cp (starEach [e2] X.env)).any (·.1) = false := by rfl) :
    W1 X F (.For (.Tuple elts kk tp) (.Call (.Name "zip" p) [e, e2] [] cp) body [] pos) P own ρ := by
  constructor
  intro ls σ H s0 sr De k
  refine (ps_for hp hc (RZ.pi_zipA hg hm pa_wa he hpl) pg_w pss_ws hs).to ?_
  refine h ls σ H s0 sr _ fun ls1 own1 H1 rs vs l1 s1 rr ⟨xs, ys, er, hl, i0, turn, fin⟩ => ?_
  subst er
  obtain ⟨v, w, rfl, rv, rw'⟩ := rrs2 rr
  obtain ⟨pa, xv, rfl, hq, hr⟩ := tup_rr rv
  obtain ⟨pb, yv, rfl, hq', hr'⟩ := tup_rr rw'
  refine ⟨pa, pb, xv, yv, rfl, .inr ⟨Same.seqT (msk_same _ _) hq, Same.seqT (msk_same _ _) hq', ?_⟩⟩
  have st2 : ∀ {i : Nat} {σ' : L2.St} {H' : Hp}, Pv X F ls1 own1 H1 I i σ' H' → SqT X.K H' pa xv ∧ SqT X.K H' pb yv := fun ⟨_, _, _, l, _⟩ => ⟨Same.seqT (msk_same _ _) (Same.seqT l.same hq), Same.seqT (msk_same _ _) (Same.seqT l.same hq')⟩
  refine RZ.for_zipT (xs := xv) (ys := yv) (by rw [← hr.length, ← hr'.length]; exact hl) (Pv X F ls1 own1 H1 I) ⟨ls1, own1, ρ, Le.refl, s1, sr.up l1.pre l1.same, i0⟩ (fun i σ' H' p => st2 p) ?_ ?_
  · rintro i x y T σ' H' hx hy ⟨ls2, own2, ρ2, l2, s2, sr2, ii⟩ hT
    have hi : i < xs.length := by rw [hr.length]; exact (List.getElem?_eq_some_iff.mp hx).1
    have hi' : i < ys.length := by omega
    have hdi : xs[i]? = some xs[i] := List.getElem?_eq_getElem hi
    have hdj : ys[i]? = some ys[i] := List.getElem?_eq_getElem hi'
    obtain ⟨x', e1, e2⟩ := hr.get hdi
    obtain ⟨y', f1, f2⟩ := hr'.get hdj
    rw [hx] at e1
    rw [hy] at f1
    cases e1; cases f1
    have gr := Le.grow (F := F) (ls := ls2) (own := own2) (same_new (o := .tup [x, y]) hT)
    refine turn i _ _ own2 ρ2 hdi hdj ii ls2 σ' _ (.ref T) (s2.grow (same_new hT)) (sr2.up gr.pre gr.same) (by simp only [RRep, Rep]; exact ⟨T, [x, y], rfl, .inl (.inl (s2.seen hT)), Reps.mono gr.same (Reps.mono l2.same (Reps.cons e2 (Reps.cons f2 Reps.nil)))⟩) _ fun ls3 own3 H3 ρ3 σ3 l3 s3 sr3 q => ?_
    exact q ls3 σ3 H3 s3 sr3 _ ⟨fun _ _ _ _ _ l s r q => ⟨_, _, _, ((l2.trans gr).trans l3).trans l, s, r, q⟩, fun _ _ _ _ _ l s r q => k.rt _ _ _ _ _ (l1.trans (((l2.trans gr).trans l3).trans l)) s r q, fun _ _ _ _ _ l s r q => k.nx _ _ _ _ _ (l1.trans (((l2.trans gr).trans l3).trans l)) s r q, fun _ _ _ _ _ l s r q => ⟨_, _, _, ((l2.trans gr).trans l3).trans l, s, r, q⟩⟩
  · rintro σ' H' ⟨ls2, own2, ρ2, l2, s2, sr2, ii⟩
    rw [← hr.length] at ii
    exact k.nx _ _ _ _ _ (l1.trans l2) s2 sr2 (fin _ _ ii)
end
end DL

namespace DL
open PySem PySem.Spec PyProof.Rows L2
section
variable {X : Cx} {F : Fm} {own : List Cell} {ρ : Ro} {Q : QE} {k : Nat} {C g p0 : Addr} {mc : Value} {pre : List D → Prop} {post : List D → D → Prop} {exc : List D → Value → Prop} {XC : Value → List Cell → Ro → Prop} {x m : Str} {p pos apos : Pos} {e o : Expr} {es : List Expr}
/-- a def of the module that may raise -/
theorem E.dcallX (tk : Tk X F XC) (G : DOk X.prog X.w X.K X.mg X.base (L2.CX X.prog X.w) x k (spX X.K pre post exc)) (hr : Room k X.A)
    (h : A X F (e :: es) (fun o rs => ∃ ds : List D, rs = ds.map R.d ∧ pre ds ∧ (∀ d, post ds d → Q o (.d d)) ∧ ∀ cls, exc ds cls → XC cls o ρ) own ρ) (hg : Gl X x := by rfl) (hdb : (x == ("__debug__" : Str)) = false := by decide) (he : starEach (e :: es) X.env = (false, eval e X.env) :: starEach es X.env := by rfl)
    (hpl : (backTo pos (starEach es X.env)).any (·.1) = false := by rfl) : E X F (.Call (.Name x p) (e :: es) [] pos) Q own ρ := by
  obtain ⟨f, fd, ps, hm, hk, G, hb⟩ := G
  constructor
  intro ls σ H st sr Qv kk pins s I
  obtain ⟨W0, t, hw⟩ := tk
  refine wpAny_Call_Name_kw (ld_glob I hg hm ?_ hdb)
  refine PySem.W.callWith_K (h₀ := X.base) I.ok.mod.kin hk (thn (h ls σ H st sr (fun vs H1 => spX X.K pre post exc vs H1 Qv (WE W0 σ)) (fun ls1 own1 H1 rs vs l1 s1 rr ⟨ds, er, hp, q, qe⟩ => ?_) pos pins s I) fun us s1 ⟨vs, H1, I1, r, q⟩ => ⟨I1.kIn, ?_⟩) he hpl
  · subst er
    exact spX_use s1 (sr.up l1.pre l1.same) (RReps.toD rr) hp (fun _ _ _ _ _ l => kk _ _ _ _ _ (l1.trans l)) q hw qe
  · exact run_fnS (E := WE W0) G hr hb (passAt t σ) I1 r q
/-- C(..) where a name of the def holds the class -/
theorem E.makeV (i : Nat) {ns : List Str} {dds : List D} {postI : List D → List D → Prop} (G : IOk X.prog X.w X.K X.mg X.base CX0 C k dds (spI X.K C ns pre postI)) (hi : ρ[i]? = some (some (.d (.ref C)))) (hr : Room (k + 1) X.A)
    (h : A X F (e :: es) (fun o rs => ∃ ds : List D, rs = ds.map R.d ∧ pre (ds ++ dds) ∧ ∀ fs, postI (ds ++ dds) fs → Q o (.d (.ins C ns fs))) own ρ) (hN : X.N[i]? = some x := by rfl) (hv : Vis X.env.scope x := by first | exact Or.inl rfl | exact Or.inr (Or.inl rfl) | exact Or.inr (Or.inr rfl))
    (hdb : (x == ("__debug__" : Str)) = false := by decide) (hcd : (x == ("__classdict__" : Str)) = false := by decide) (he : starEach (e :: es) X.env = (false, eval e X.env) :: starEach es X.env := by rfl)
    (hpl : (backTo pos (starEach es X.env)).any (·.1) = false := by rfl) : E X F (.Call (.Name x p) (e :: es) [] pos) Q own ρ := by
  obtain ⟨f, fd, ps, dvs, dus, M, G, hb, hv', hd⟩ := G
  constructor
  intro ls σ H st sr Qv kk pins s I
  obtain ⟨v0, hs, rv⟩ := sr.get hi
  cases rr_ref rv
  refine wpAny_Call_Name_kw (thn ((pe_var (pos := p) hN hv hdb hcd).run pins s σ H (fun v H1 => v = .ref C ∧ H1 = H) I ⟨.ref C, hs, rfl, rfl⟩) fun u s0 ⟨v, H1, I0, r1, q1⟩ => ?_)
  obtain ⟨rfl, rfl⟩ := q1
  cases r1
  refine PySem.W.callWith_K (h₀ := X.base) I.ok.mod.kin M.kp (thn (h ls σ H1 st sr (fun vs H2 => ∀ a dx, H2 a = none → H2 dx = none → dx ≠ a → spI X.K C ns pre postI (.ref a :: (vs ++ dvs)) (upd (upd H2 dx (.own a)) a (.ins C dx [])) (fun v H3 => v = .non ∧ Qv (.ref a) H3) E0) (fun ls1 own1 H2 rs vs l1 s1 rr ⟨ds, er, hp, q⟩ => ?_) pos pins s0 I0) fun us s1 ⟨vs, H2, I1, r, q⟩ => ⟨I1.kIn, ?_⟩) he hpl
  · subst er
    intro a dx ha hdx hne
    have hid : a ∉ F.S0 ++ live ls1 own1 := fun z => s1.hid a z ha
    have sm0 : Same H2 (upd (upd H2 dx (.own a)) a (.ins C dx [])) := fun b o e => by rw [upd_ne (ne_of_none e ha), upd_ne (ne_of_none e hdx)]; exact e
    refine ⟨F.S0 ++ live ls1 own1, a, dx, _, ds ++ dds, rfl, hid, fun b hb z => ?_, upd_same, ?_, hp, fun H' dx' xs fs hm' a1 a2 a3 a4 => ⟨rfl, ?_⟩⟩
    · have := s1.hid b hb
      cases q1 : H2 b with
      | none => exact this q1
      | some o => rw [sm0 b o q1] at z; cases z
    · refine Reps.append (Reps.mono (fun b o e => ?_) (RReps.toD rr)) (hd _)
      have hb : b ≠ a := fun z => by
        subst z
        have := msk_same _ _ _ _ e
        rw [ha] at this; cases this
      have e : msk (F.S0 ++ live ls1 own1) H2 b = some o := e
      unfold msk at e ⊢
      split at e
      · cases e
      · rename_i hn
        rw [if_neg (by rw [List.mem_append, List.mem_singleton]; exact fun z => z.elim hn hb)]
        exact sm0 b o e
    · have sm : Same H2 H' := fun b o e => hm' b o (fun z => by subst z; rw [ha] at e; cases e) (sm0 b o e)
      refine kk ls1 own1 H' (.d (.ins C ns fs)) _ (l1.trans (Le.grow sm)) (s1.grow sm) ?_ (q fs a4)
      simp only [RRep, Rep]
      refine ⟨a, dx', xs, rfl, ?_, a2, Reps.mono (msk_le fun b hb => List.mem_append_left _ hb) a3⟩
      show msk (F.S0 ++ live ls1 own1) H' a = _
      rw [msk_out hid]
      exact a1
  · exact run_make M G hr hb hv' pass0 I1 r q
theorem E.makeVX (i : Nat) {ns : List Str} {dds : List D} {postI : List D → List D → Prop} (tk : Tk X F XC) (G : IOk X.prog X.w X.K X.mg X.base (L2.CX X.prog X.w) C k dds (spIX X.K C ns pre postI exc)) (hi : ρ[i]? = some (some (.d (.ref C)))) (hr : Room (k + 1) X.A)
    (h : A X F (e :: es) (fun o rs => ∃ ds : List D, rs = ds.map R.d ∧ pre (ds ++ dds) ∧ (∀ fs, postI (ds ++ dds) fs → Q o (.d (.ins C ns fs))) ∧ ∀ cls, exc (ds ++ dds) cls → XC cls o ρ) own ρ) (hN : X.N[i]? = some x := by rfl) (hv : Vis X.env.scope x := by first | exact Or.inl rfl | exact Or.inr (Or.inl rfl) | exact Or.inr (Or.inr rfl))
    (hdb : (x == ("__debug__" : Str)) = false := by decide) (hcd : (x == ("__classdict__" : Str)) = false := by decide) (he : starEach (e :: es) X.env = (false, eval e X.env) :: starEach es X.env := by rfl)
    (hpl : (backTo pos (starEach es X.env)).any (·.1) = false := by rfl) : E X F (.Call (.Name x p) (e :: es) [] pos) Q own ρ := by
  obtain ⟨f, fd, ps, dvs, dus, M, G, hb, hv', hd⟩ := G
  constructor
  intro ls σ H st sr Qv kk pins s I
  obtain ⟨W0, t, hw⟩ := tk
  obtain ⟨v0, hs, rv⟩ := sr.get hi
  cases rr_ref rv
  refine wpAny_Call_Name_kw (thn ((pe_var (pos := p) hN hv hdb hcd).run pins s σ H (fun v H1 => v = .ref C ∧ H1 = H) I ⟨.ref C, hs, rfl, rfl⟩) fun u s0 ⟨v, H1, I0, r1, q1⟩ => ?_)
  obtain ⟨rfl, rfl⟩ := q1
  cases r1
  refine PySem.W.callWith_K (h₀ := X.base) I.ok.mod.kin M.kp (thn (h ls σ H1 st sr (fun vs H2 => ∀ a dx, H2 a = none → H2 dx = none → dx ≠ a → spIX X.K C ns pre postI exc (.ref a :: (vs ++ dvs)) (upd (upd H2 dx (.own a)) a (.ins C dx [])) (fun v H3 => v = .non ∧ Qv (.ref a) H3) (WE W0 σ)) (fun ls1 own1 H2 rs vs l1 s1 rr ⟨ds, er, hp, q, qe⟩ => ?_) pos pins s0 I0) fun us s1 ⟨vs, H2, I1, r, q⟩ => ⟨I1.kIn, ?_⟩) he hpl
  · subst er
    intro a dx ha hdx hne
    have hid : a ∉ F.S0 ++ live ls1 own1 := fun z => s1.hid a z ha
    have sm0 : Same H2 (upd (upd H2 dx (.own a)) a (.ins C dx [])) := fun b o e => by rw [upd_ne (ne_of_none e ha), upd_ne (ne_of_none e hdx)]; exact e
    refine ⟨F.S0 ++ live ls1 own1, a, dx, _, ds ++ dds, rfl, hid, fun b hb z => ?_, upd_same, ?_, hp, fun H' dx' xs fs hm' a1 a2 a3 a4 => ⟨rfl, ?_⟩, fun cls H' hm' he => ?_⟩
    · have := s1.hid b hb
      cases q1 : H2 b with
      | none => exact this q1
      | some o => rw [sm0 b o q1] at z; cases z
    · refine Reps.append (Reps.mono (fun b o e => ?_) (RReps.toD rr)) (hd _)
      have hb : b ≠ a := fun z => by
        subst z
        have := msk_same _ _ _ _ e
        rw [ha] at this; cases this
      have e : msk (F.S0 ++ live ls1 own1) H2 b = some o := e
      unfold msk at e ⊢
      split at e
      · cases e
      · rename_i hn
        rw [if_neg (by rw [List.mem_append, List.mem_singleton]; exact fun z => z.elim hn hb)]
        exact sm0 b o e
    · have sm : Same H2 H' := fun b o e => hm' b o (fun z => by subst z; rw [ha] at e; cases e) (sm0 b o e)
      refine kk ls1 own1 H' (.d (.ins C ns fs)) _ (l1.trans (Le.grow sm)) (s1.grow sm) ?_ (q fs a4)
      simp only [RRep, Rep]
      refine ⟨a, dx', xs, rfl, ?_, a2, Reps.mono (msk_le fun b hb => List.mem_append_left _ hb) a3⟩
      show msk (F.S0 ++ live ls1 own1) H' a = _
      rw [msk_out hid]
      exact a1
    · have sm : Same H2 H' := fun b o e => hm' b o (fun z => by subst z; rw [ha] at e; cases e) (sm0 b o e)
      exact hw ls1 own1 H' ρ σ cls (s1.grow sm) (sr.up l1.pre (l1.same.trans (Le.grow sm (own := own1) (ls := ls1) (F := F)).same)) (qe cls he)
  · exact run_makeS (E := WE W0 σ) M G hr hb hv' (passAt t σ) I1 r q
/-! ### classmethods read off the class -/
/-- a classmethod and its promise (its first argument is the class) -/
def COk (P : Program) (w : World) (K : PySem.W.Frag) (mg : Str → Option Value) (base : Heap) (CX : CXT) (C : Addr) (m : Str) (k : Nat) (sp : Sp) : Prop :=
  ∃ mc p g fd ps, ClX.CRead K C mc ∧ ClX.CMet K C mc m p g ∧ FnOk P w K mg base CX k g fd ps sp ∧ Binds K fd ps []
theorem E.cm {pl : Sem Bool} (G : COk X.prog X.w X.K X.mg X.base CX0 C m k (spF X.K pre post)) (hr : Room k X.A)
    (h : E X F o (fun o1 r => r = .d (.ref C) ∧ A X F (e :: es) (fun o2 rs => ∃ ds : List D, rs = ds.map R.d ∧ pre (.ref C :: ds) ∧ ∀ d, post (.ref C :: ds) d → Q o2 (.d d)) o1 ρ) own ρ)
    (hst : starEach (e :: es) X.env = (false, eval e X.env) :: starEach es X.env := by rfl) (hpl : (backTo pos (starEach es X.env)).any (·.1) = false := by rfl)
    (ht : eval (.Call (.Attribute o m apos) (e :: es) [] pos) X.env = (do
      let ov ← eval o X.env
      standAt apos.atName
      let (f, first) ← holding [ov] (getMethod ov m pl)
      callWith pos f first (backTo pos (starEach (e :: es) X.env)) (backToKw pos (keywordEach [] X.env))) := by rfl) : E X F (.Call (.Attribute o m apos) (e :: es) [] pos) Q own ρ := by
  obtain ⟨mc, p0, g, fd, ps, cr, cm, G, hb⟩ := G
  constructor
  intro ls σ H st sr Qv kk
  refine (ClX.pe_cmeth pe_we cr cm (G.raw hb .nil) hr pass0 pa_wa hst hpl ht).to ?_
  refine h ls σ H st sr _ fun ls1 own1 H1 r u l1 s1 rr ⟨er, ha⟩ => ?_
  subst er
  refine ⟨rr_ref rr, ?_⟩
  refine ha ls1 σ H1 s1 (sr.up l1.pre l1.same) _ fun ls2 own2 H2 rs vs l2 s2 rr2 ⟨ds, er, hp, q⟩ => ?_
  subst er
  rw [List.append_nil]
  exact spF_use s2 (Reps.cons (by simp only [Rep]) (RReps.toD rr2)) hp (fun _ _ _ _ _ l => kk _ _ _ _ _ ((l1.trans l2).trans l)) q _
theorem E.cm0 {pl : Sem Bool} (G : COk X.prog X.w X.K X.mg X.base CX0 C m k (spF X.K pre post)) (hr : Room k X.A)
    (h : E X F o (fun o1 r => r = .d (.ref C) ∧ pre [.ref C] ∧ ∀ d, post [.ref C] d → Q o1 (.d d)) own ρ)
    (ht : eval (.Call (.Attribute o m apos) [] [] pos) X.env = (do
      let ov ← eval o X.env
      standAt apos.atName
      let (f, first) ← holding [ov] (getMethod ov m pl)
      callWith pos f first (backTo pos (starEach [] X.env)) (backToKw pos (keywordEach [] X.env))) := by rfl) : E X F (.Call (.Attribute o m apos) [] [] pos) Q own ρ := by
  obtain ⟨mc, p0, g, fd, ps, cr, cm, G, hb⟩ := G
  constructor
  intro ls σ H st sr Qv kk pins s I
  refine PySem.W.methodCall_KW (pl := pl) (thn (h ls σ H st sr (fun v H1 => v = .ref C ∧ spF X.K pre post [.ref C] H1 Qv E0) (fun ls1 own1 H1 r u l1 s1 rr ⟨er, hp, q⟩ => ?_) pins s I) fun u s1 ⟨x, H1, I1, rx, ex, q⟩ => ?_) ht
  · subst er
    have e := rr_ref rr
    subst e
    exact ⟨rfl, spF_use s1 (Reps.cons (by simp only [Rep]) Reps.nil) hp (fun _ _ _ _ _ l => kk _ _ _ _ _ (l1.trans l)) q _⟩
  · subst ex
    obtain rfl : u = Value.ref C := rx
    refine ClX.getmethcm_ok I1 cr cm fun s2 I2 => ?_
    refine PySem.W.callWith_M0 (K := X.K) ⟨ClX.pin_at I2, I2.kIn⟩ cm.fi ?_
    exact ClX.run_cm (us := []) (vs := []) (G.raw hb .nil) hr pass0 I2 .nil q
theorem E.cmX {pl : Sem Bool} (tk : Tk X F XC) (G : COk X.prog X.w X.K X.mg X.base (L2.CX X.prog X.w) C m k (spX X.K pre post exc)) (hr : Room k X.A)
    (h : E X F o (fun o1 r => r = .d (.ref C) ∧ A X F (e :: es) (fun o2 rs => ∃ ds : List D, rs = ds.map R.d ∧ pre (.ref C :: ds) ∧ (∀ d, post (.ref C :: ds) d → Q o2 (.d d)) ∧ ∀ cls, exc (.ref C :: ds) cls → XC cls o2 ρ) o1 ρ) own ρ)
    (hst : starEach (e :: es) X.env = (false, eval e X.env) :: starEach es X.env := by rfl) (hpl : (backTo pos (starEach es X.env)).any (·.1) = false := by rfl)
    (ht : eval (.Call (.Attribute o m apos) (e :: es) [] pos) X.env = (do
      let ov ← eval o X.env
      standAt apos.atName
      let (f, first) ← holding [ov] (getMethod ov m pl)
      callWith pos f first (backTo pos (starEach (e :: es) X.env)) (backToKw pos (keywordEach [] X.env))) := by rfl) : E X F (.Call (.Attribute o m apos) (e :: es) [] pos) Q own ρ := by
  obtain ⟨mc, p0, g, fd, ps, cr, cm, G, hb⟩ := G
  constructor
  intro ls σ H st sr Qv kk pins s I
  obtain ⟨W0, t, hw⟩ := tk
  refine PySem.W.methodCall_KW (pl := pl) (thn (h ls σ H st sr (fun v H1 => v = .ref C ∧ wa X (e :: es) σ H1 fun vs H2 => spX X.K pre post exc (.ref C :: vs) H2 Qv (WE W0 σ)) (fun ls1 own1 H1 r u l1 s1 rr ⟨er, ha⟩ => ?_) pins s I) fun u s1 ⟨x, H1, I1, rx, ex, q⟩ => ?_) ht
  · subst er
    have e := rr_ref rr
    subst e
    refine ⟨rfl, ?_⟩
    refine ha ls1 σ H1 s1 (sr.up l1.pre l1.same) _ fun ls2 own2 H2 rs vs l2 s2 rr2 ⟨ds, er, hp, q, qe⟩ => ?_
    subst er
    exact spX_use s2 (sr.up (l1.trans l2).pre (l1.trans l2).same) (Reps.cons (by simp only [Rep]) (RReps.toD rr2)) hp (fun _ _ _ _ _ l => kk _ _ _ _ _ ((l1.trans l2).trans l)) q hw qe
  · subst ex
    obtain rfl : u = Value.ref C := rx
    refine ClX.getmethcm_ok I1 cr cm fun s2 I2 => ?_
    refine ClX.callwith_cm I2 (ClX.base_none I1 (Nat.le_refl _)) cm.fi (thn (q pos _ s2 I2) fun us s3 ⟨vs, H2, I3, rv, q2⟩ => ⟨⟨ClX.pin_at I3, I3.kIn⟩, ?_⟩) hst hpl
    have r2 : Vals (V.ref C :: vs) (Value.ref C :: us) := .cons rfl rv
    have hl : (Value.ref C :: us).length = ps.length := by rw [← r2.length]; exact G.len _ _ _ _ q2
    have hbb : BindsTo s3 fd ⟨Value.ref C :: us, []⟩ (ps.zip (Value.ref C :: us)) := by
      have := hb s3 (Value.ref C :: us) I3.kIn (by simpa using hl)
      simpa using this
    have z : wpAny (model X.prog X.w) X.A (PySem.call (.ref s1.heap.objs.size) us) (EP X ((s1.heap.objs.size, PySem.W.methodObj (.ref g) (.ref C)) :: pins) σ Qv) X.xe s3 := ?_
    · exact thn z fun _ _ y => ClX.unpinE y
    refine wpAny_call (PySem.W.method_call (ClX.pin_at I3) (codeAny_mono (G.run X.A X.stack s3 H2 ⟨Value.ref C :: us, []⟩ (Value.ref C :: us) (V.ref C :: vs) Qv (WE W0 σ) hr I3.env0 hbb r2 q2) fun r s' hq => ?_))
    cases r with
    | error e => exact passAt t σ _ _ _ _ _ I3 hq
    | ok fl =>
      cases fl with
      | ret w => exact I3.after hq
      | next => exact False.elim hq
      | brk => exact False.elim hq
      | cont => exact False.elim hq
end
end DL

namespace DL.Own
open PySem PySem.W PySem.Calls PyProof.Rows
section
variable {prog : Program} {w : World} {A : Around} {E : Value → Shared → Prop} {s : Shared} {K : Frag} {x y C D L f g : Addr} {h₀ : Heap} {m : Str → Option Value} {ox oy : Obj} {od oe : Option Obj}
set_option maxHeartbeats 2000000 in
/-- x op y of two classes: the left one does not know the right one, which has the reflected method -/
theorem two_K {op : Operator} {g0 f0 : Addr} {Q : Value → Shared → Prop} (F : Fr h₀ L s.heap m) (X₀ : K.In h₀) (I : InstAt s.heap x ox C od) (J : InstAt s.heap y oy D oe) (hCD : C ≠ D) (hc : selfFirst K C = true) (hd : selfFirst K D = true)
    (hs : findIn K (.ref C) (PySem.dunder op.info.2) = some (some (.ref f))) (hr : findIn K (.ref C) (dunderR op.info.2) = some (some (.ref f0))) (hf : isFn K (.ref f) = true)
    (gs : findIn K (.ref D) (PySem.dunder op.info.2) = some (some (.ref g0))) (gr : findIn K (.ref D) (dunderR op.info.2) = some (some (.ref g))) (hg : isFn K (.ref g) = true) (hsub : subIn K (.ref D) (.ref C) = some false)
    (h : wpAny (model prog w) A (call (.ref f) [.ref x, .ref y]) (fun v s' => v = .notImplemented ∧ K.In s'.heap ∧ (∃ o d, InstAt s'.heap x o C d) ∧ (∃ o d, InstAt s'.heap y o D d) ∧ wpAny (model prog w) A (call (.ref g) [.ref y, .ref x]) (PySem.W.CmpBack Q) E s') E s) :
    wpAny (model prog w) A (binaryOp op (.ref x) (.ref y)) Q E s := by
  have X := X₀.keeps F.keep
  obtain ⟨cd, rest, hcd, hm⟩ := ksp_first hc
  obtain ⟨cd', rest', hcd', hm'⟩ := ksp_first hd
  rcases hi : op.info with ⟨sym, nm'⟩
  rw [hi] at hs hr gs gr
  dsimp only at hs hr gs gr
  have one : wpAny (model prog w) A (tryMethod (.ref x) (PySem.dunder nm') (.ref y)) (fun r s' => r = none ∧ K.In s'.heap ∧ (∃ o d, InstAt s'.heap x o C d) ∧ (∃ o d, InstAt s'.heap y o D d) ∧ wpAny (model prog w) A (call (.ref g) [.ref y, .ref x]) (PySem.W.CmpBack Q) E s') E s := by
    unfold tryMethod
    refine wpAny_bind (special_fn X I hs (beq_iff_eq.mp hf) (wpAny_mono h (fun v s' hv => ?_) fun _ _ e => e))
    obtain ⟨rfl, z⟩ := hv
    exact wpAny_pure ⟨rfl, z⟩
  obtain ⟨hh, gg, d, tt, os⟩ := s
  have L1 : Looks (model prog w) hh (typeOf (.ref x)) (.ref C) := I.type
  have L2 : Looks (model prog w) hh (typeOf (.ref y)) (.ref D) := J.type
  have L3 : Looks (model prog w) hh (fillsNumberSlot (.ref C) nm') true := fills_K X hcd hm hs
  have L4 : Looks (model prog w) hh (fillsNumberSlot (.ref D) nm') true := fills_K X hcd' hm' gs
  have L5 : Looks (model prog w) hh (isSubtype (.ref D) (.ref C)) false := looks_subIn X hsub
  have L6 : Looks (model prog w) hh (numberSlotInPython (.ref C) nm') true := ksp_inPy X hs hr (.inr ⟨_, rfl⟩)
  have L7 : Looks (model prog w) hh (numberSlotInPython (.ref D) nm') true := ksp_inPy X gs gr (.inr ⟨_, rfl⟩)
  have hne : (Value.ref C == Value.ref D) = false := Bool.eq_false_iff.mpr fun q => by cases beq_iff_eq.mp q; exact hCD rfl
  simp only [binaryOp, hi]
  refine wpAny_holding (wpAny_bind ?_)
  unfold binaryOp1
  refine wpAny_bind (L1.at (wpAny_bind (L2.at (wpAny_bind (L3.at ?_)))))
  simp only [hne, Bool.false_eq_true, if_false]
  ksp_lk
  refine wpAny_mono one (fun r s' hr' => ?_) fun _ _ e => e
  obtain ⟨rfl, X', ⟨o1, d1, I'⟩, ⟨o2, d2, J'⟩, hq⟩ := hr'
  obtain ⟨hh', gg', d', tt', os'⟩ := s'
  have M1 : Looks (model prog w) hh' (typeOf (.ref x)) (.ref C) := I'.type
  have M2 : Looks (model prog w) hh' (typeOf (.ref y)) (.ref D) := J'.type
  have two := ksp_try X' J' gr hg hq
  ksp_lk
  simp only [hne, Bool.false_eq_true, if_false, Bool.not_false, Bool.and_self, if_true]
  ksp_lk
  refine wpAny_mono two (fun r s2 hr2 => ?_) fun _ _ e => e
  obtain ⟨v, rfl, hq2⟩ := hr2
  ksp_lk
  exact hq2
end
end DL.Own
namespace DL
open PySem PySem.Spec PyProof.Rows L2
/-! ### defs that hand back NotImplemented -/
def wni (X : Cx) (sts : List Stmt) (σ : L2.St) (H : Hp) (QH : Hp → Prop) : Prop := ∀ pins s, Inv X pins σ H s → wpAny (model X.prog X.w) X.A (execs sts X.env) (fun fl s' => fl = .ret .notImplemented ∧ ∃ σ' H', Inv X pins σ' H' s' ∧ QH H') X.xe s
structure WN (X : Cx) (F : Fm) (sts : List Stmt) (own : List Cell) (ρ : Ro) : Prop where
  run : ∀ ls σ H, St0 X.K F ls own H → SRep X.K ls (F.g ls own H) ρ σ → wni X sts σ H fun H' => ∃ ls' own', St0 X.K F ls' own' H'
section
variable {X : Cx} {F : Fm} {own : List Cell} {ρ : Ro} {st : Stmt} {rest : List Stmt} {p pos : Pos}
theorem WN.cons (h : W1 X F st { nx := fun o r => WN X F rest o r, rt := fun _ _ => False } own ρ) : WN X F (st :: rest) own ρ := by
  constructor
  intro ls σ H s0 sr pins s I
  refine wpAny_execs_cons (thn (h ls σ H s0 sr { nx := fun σ' H' => wni X rest σ' H' fun H2 => ∃ ls' own', St0 X.K F ls' own' H2, rt := fun _ _ => False, bk := fun _ _ => False, ct := fun _ _ => False } ⟨fun ls' own' H' ρ' σ' l s r q => WN.run q ls' σ' H' s r, fun _ _ _ _ _ _ _ _ q => q, fun _ _ _ _ _ _ _ _ q => q, fun _ _ _ _ _ _ _ _ q => q⟩ pins s I) fun f s1 q => ?_)
  cases f with
  | next =>
    obtain ⟨σ', H', I', q⟩ := q
    exact q pins s1 I'
  | ret v => obtain ⟨_, _, _, _, _, q⟩ := q; exact q.elim
  | brk => obtain ⟨_, _, _, q⟩ := q; exact q.elim
  | cont => obtain ⟨_, _, _, q⟩ := q; exact q.elim
theorem WN.ret (hm : X.mg "NotImplemented" = none) (hv : bootBuiltins "NotImplemented" = some .notImplemented := by decide +kernel) (hg : Gl X "NotImplemented" := by rfl) : WN X F [.Return (some (.Name "NotImplemented" p)) pos] own ρ := by
  constructor
  intro ls σ H s0 sr pins s I
  refine wpAny_execs_cons (wpAny_Return_some (ld_blt I hg hm hv ?_ (by decide) (by decide)))
  exact ⟨rfl, σ, H, I, ls, own, s0⟩
end
/-- a def that hands back NotImplemented and changes nothing that stood -/
def FnNi (P : Program) (w : World) (K : PySem.W.Frag) (mg : Str → Option Value) (base : Heap) (k : Nat) (f : Addr) (fd : FuncData) (ps : List Str) (pre : List D → Prop) : Prop :=
  ∀ (A : Around) (outer : List Env) (s : Shared) (H : Hp) (args : Args) (us : List Value) (vs : List V) (S : List Addr) (ds : List D), Room k A → Env0 P w K mg base A outer s H → BindsTo s fd args (ps.zip us) → Vals vs us → (∀ b ∈ S, H b ≠ none) → Reps K (msk S H) ds vs → pre ds →
    codeAny (model P w) A (.call (.ref f) args) (fun r s' => r = .ok (.ret .notImplemented) ∧ CE outer P w H s (fun _ H' => Same H H') .none s') s
section
variable {P : Program} {w : World} {K : PySem.W.Frag} {mg : Str → Option Value} {base : Heap}
theorem ok_NI {x qual : Str} {st : Stmt} {f : Addr} {fd : FuncData} {N ps : List Str} {k : Nat} (F : Fun K x qual st f fd) (S : FnScope N ps (defScope st)) {pre : List D → Prop} (hlen : ∀ ds, pre ds → ds.length = ps.length)
    (body : ∀ (cdv : Value) (A : Around) (outer : List Env) (s : Shared) (H : Hp) (E : XK) (Fr : Fm) (ds : List D), Room k (A.deeper (envOfC qual (defScope st) s.heap.objs.size f cdv)) → Fr.mu = [] → pre ds →
      WN (cx0 P w K mg base N qual (defScope st) f cdv A outer s H E) Fr (defBody st) [] (ent N.length (ds.map R.d))) :
    FnNi P w K mg base (k + 1) f fd ps pre := by
  obtain ⟨oc, od, kV, doc, pm, an, cdv, ct, osl, rfl, lk, hcd⟩ := F.ex
  intro A outer s H args us vs S0 ds hr e0 hb r h1 h2 h3
  have hl : vs.length = ps.length := by rw [← h2.length]; exact hlen ds h3
  have KX : K.In s.heap := e0.mod.kin.keeps fun b o e => (e0.bs b o e).1
  have lim : s.heap.NoLimit := e0.mod.nolimit.keeps fun b o e => (e0.bs b o e).1
  have hkind : ∀ y ∈ ps.zip us, (defScope st).names.lookup y.1 = some .local ∨ ((defScope st).names.lookup y.1 = some .cell ∧ ((cellsFrom (s.heap.objs.size + 1) (defScope st).names []).lookup y.1).isSome = true) := fun ⟨n, v⟩ hy => by
    rcases S.par n (List.of_mem_zip hy).1 with q | q
    · exact .inl q
    · exact .inr ⟨q, PySem.W.cellsFrom_some _ _ _ (.inl q)⟩
  refine codeAny_call_function hr.depth (KX _ _ lk) rfl S.co S.gen rfl (PySem.W.codeRec_of KX hcd) (hb _ _ _ _ ?_)
  refine wpAny_newFunctionEnv_cells S.kind hkind fun env he s1 x => ?_
  subst he
  refine ⟨lim.keeps x.toInCall.keep, codeAny_func ?_⟩
  have I : Inv (cxOf CX0 P w K mg base N qual (defScope st) f cdv A outer s H (fun _ _ _ => False)) [] (L2.start N vs) H s1 := inv_start S hr.hd e0 hl r x
  have st0 : St0 K (Fm.of H S0 []) [] [] H := ⟨rfl, List.nodup_nil, fun l hl => absurd hl (by simp), fun k l c hl => absurd hl (by simp), fun b o _ e => e, fun b h => h, h1, fun l hl => absurd hl (by simp), List.nil_prefix, fun _ _ e => by cases e⟩
  have eg : Fm.g (Fm.of H S0 []) [] [] H = msk S0 H := by show msk (S0 ++ live [] []) H = _; simp [live]
  have sr : SRep K [] (Fm.g (Fm.of H S0 []) [] [] H) (ent N.length (ds.map R.d)) (L2.start N vs) := start_rep N (by rw [eg]; exact RReps.ofD h2)
  refine wpAny_mono ((body cdv A outer s H (fun _ _ _ => False) (Fm.of H S0 []) ds (hr.deeper _) rfl h3).run [] (L2.start N vs) H st0 sr [] s1 (I.wish _)) (fun fl s' hs => ?_) fun e s' hs => hs.elim
  obtain ⟨rfl, σ', H', J, ls', own', s'⟩ := hs
  exact ⟨rfl, V.non, H', J.os, J.bare, J.base, J.hok, rfl, fun b o e => s'.keep b o (by simp) e⟩
end
section
variable {X : Cx} {F : Fm} {own : List Cell} {Q : QE} {k k2 : Nat} {C C2 : Addr} {nm rn : Str} {pre pre2 : List D → Prop} {post2 : List D → D → Prop} {ns ns' : List Str} {ds ds' : List D} {op : Operator}
/-- a method that hands back NotImplemented -/
def NOk (P : Program) (w : World) (K : PySem.W.Frag) (mg : Str → Option Value) (base : Heap) (C : Addr) (x : Str) (k : Nat) (pre : List D → Prop) : Prop :=
  ∃ f fd ps, PySem.W.findIn K (.ref C) x = some (some (.ref f)) ∧ PySem.W.isFn K (.ref f) = true ∧ FnNi P w K mg base k f fd ps pre ∧ Binds K fd ps [] ∧ ∀ ds, pre ds → ds.length = ps.length
theorem O2.dN2 {spr sp0 : Sp} {kr k0 : Nat} {CX CX' : CXT} (hCD : C ≠ C2) (hc : PySem.W.selfFirst X.K C = true) (hc2 : PySem.W.selfFirst X.K C2 = true) (hd : PySem.dunder op.info.2 = nm) (hd2 : dunderR op.info.2 = rn) (G : NOk X.prog X.w X.K X.mg X.base C nm k pre) (G2 : MOk X.prog X.w X.K X.mg X.base CX0 C2 rn k2 (spF X.K pre2 post2))
    (Gr : MOk X.prog X.w X.K X.mg X.base CX C rn kr spr) (G0 : MOk X.prog X.w X.K X.mg X.base CX' C2 nm k0 sp0) (hr : Room k X.A) (hr2 : Room k2 X.A) (hsub : PySem.W.subIn X.K (.ref C2) (.ref C) = some false)
    (hp : pre [.ins C ns ds, .ins C2 ns' ds']) (hp2 : pre2 [.ins C2 ns' ds', .ins C ns ds]) (h : ∀ d, post2 [.ins C2 ns' ds', .ins C ns ds] d → Q own (.d d)) : O2 X F (.bin op) (.d (.ins C ns ds)) (.d (.ins C2 ns' ds')) Q own := by
  subst hd; subst hd2
  obtain ⟨f, fd, ps, a1, a2, G, hb, hlen⟩ := G
  obtain ⟨g, gd, qs, b1, b2, b3, G2, hb2⟩ := G2
  obtain ⟨f0, _, _, c1, _⟩ := Gr
  obtain ⟨g0, _, _, e1, _⟩ := G0
  constructor
  intro ls H u v st rx ry Qv kk pins σ s uu vv I ru rv
  obtain ⟨a, dx, fs, rfl, ha⟩ := ins_at st rx
  obtain ⟨b, dy, gs, rfl, hb'⟩ := ins_at st ry
  cases ru; cases rv
  obtain ⟨mA, J, _⟩ := ins_get I.hok ha
  obtain ⟨mB, J', _⟩ := ins_get I.hok hb'
  obtain ⟨od, J, _⟩ := J.look
  obtain ⟨od', J', _⟩ := J'.look
  obtain ⟨m, hF⟩ := I.fr
  have rr := Reps.cons rx (Reps.cons ry Reps.nil)
  refine Own.two_K hF I.ok.mod.kin J J' hCD hc hc2 a1 c1 a2 e1 b1 b2 hsub ?_
  have hl : [Value.ref a, Value.ref b].length = ps.length := by rw [← hlen _ hp]; rfl
  have hbb : BindsTo s fd ⟨[Value.ref a, Value.ref b], []⟩ (ps.zip [Value.ref a, Value.ref b]) := by
    have := hb s [Value.ref a, Value.ref b] I.kIn (by simpa using hl)
    simpa using this
  refine wpAny_call (codeAny_mono (G X.A X.stack s H ⟨[.ref a, .ref b], []⟩ [.ref a, .ref b] [.ref a, .ref b] _ _ hr I.env0 hbb (.cons rfl (.cons rfl .nil)) st.hid rr hp) fun r s' hq => ?_)
  obtain ⟨rfl, ce⟩ := hq
  obtain ⟨v0, H', I', _, sm⟩ := I.after ce
  have st' := st.grow sm
  have rx' := rx.up List.prefix_rfl (msk_mono (S := F.S0 ++ live ls own) sm)
  have ry' := ry.up List.prefix_rfl (msk_mono (S := F.S0 ++ live ls own) sm)
  obtain ⟨nA, O1, _⟩ := ins_get I'.hok (sm _ _ ha)
  obtain ⟨nB, O2', _⟩ := ins_get I'.hok (sm _ _ hb')
  obtain ⟨o1, O1, _⟩ := O1.look
  obtain ⟨o2, O2', _⟩ := O2'.look
  refine ⟨rfl, I'.kIn, ⟨_, _, O1⟩, ⟨_, _, O2'⟩, ?_⟩
  exact thn (run_at (vs := [.ref b, .ref a]) G2 rfl hr2 hb2 I' (.cons rfl (.cons rfl .nil)) (spF_use st' (Reps.cons ry' (Reps.cons rx' Reps.nil)) hp2 (fun _ _ _ _ _ l => kk _ _ _ _ _ ((Le.grow sm).trans l)) h _)) fun u s q => ep_back q
end
end DL

namespace DL.Own
open PySem PySem.W PySem.Calls PyProof.Rows
section
variable {prog : Program} {w : World} {A : Around} {E : Value → Shared → Prop} {s : Shared} {K : Frag} {x y C D L f g : Addr} {h₀ : Heap} {m : Str → Option Value} {ox oy : Obj} {od oe : Option Obj}
set_option maxHeartbeats 2000000 in
/-- x op y of two classes: the left one knows the right one -/
theorem left_K {op : Operator} {g0 g1 f0 : Addr} {Q : Value → Shared → Prop} (F : Fr h₀ L s.heap m) (X₀ : K.In h₀) (I : InstAt s.heap x ox C od) (J : InstAt s.heap y oy D oe) (hCD : C ≠ D) (hc : selfFirst K C = true) (hd : selfFirst K D = true)
    (hs : findIn K (.ref C) (PySem.dunder op.info.2) = some (some (.ref f))) (hr : findIn K (.ref C) (dunderR op.info.2) = some (some (.ref f0))) (hf : isFn K (.ref f) = true)
    (gs : findIn K (.ref D) (PySem.dunder op.info.2) = some (some (.ref g0))) (gr : findIn K (.ref D) (dunderR op.info.2) = some (some (.ref g1))) (hsub : subIn K (.ref D) (.ref C) = some false)
    (h : wpAny (model prog w) A (call (.ref f) [.ref x, .ref y]) (PySem.W.CmpBack Q) E s) : wpAny (model prog w) A (binaryOp op (.ref x) (.ref y)) Q E s := by
  have X := X₀.keeps F.keep
  obtain ⟨cd, rest, hcd, hm⟩ := ksp_first hc
  obtain ⟨cd', rest', hcd', hm'⟩ := ksp_first hd
  rcases hi : op.info with ⟨sym, nm'⟩
  rw [hi] at hs hr gs gr
  dsimp only at hs hr gs gr
  have one := ksp_try X I hs hf h
  obtain ⟨hh, gg, d, tt, os⟩ := s
  have L1 : Looks (model prog w) hh (typeOf (.ref x)) (.ref C) := I.type
  have L2 : Looks (model prog w) hh (typeOf (.ref y)) (.ref D) := J.type
  have L3 : Looks (model prog w) hh (fillsNumberSlot (.ref C) nm') true := fills_K X hcd hm hs
  have L4 : Looks (model prog w) hh (fillsNumberSlot (.ref D) nm') true := fills_K X hcd' hm' gs
  have L5 : Looks (model prog w) hh (isSubtype (.ref D) (.ref C)) false := looks_subIn X hsub
  have L6 : Looks (model prog w) hh (numberSlotInPython (.ref C) nm') true := ksp_inPy X hs hr (.inr ⟨_, rfl⟩)
  have L7 : Looks (model prog w) hh (numberSlotInPython (.ref D) nm') true := ksp_inPy X gs gr (.inr ⟨_, rfl⟩)
  have hne : (Value.ref C == Value.ref D) = false := Bool.eq_false_iff.mpr fun q => by cases beq_iff_eq.mp q; exact hCD rfl
  simp only [binaryOp, hi]
  refine wpAny_holding (wpAny_bind ?_)
  unfold binaryOp1
  refine wpAny_bind (L1.at (wpAny_bind (L2.at (wpAny_bind (L3.at ?_)))))
  simp only [hne, Bool.false_eq_true, if_false]
  ksp_lk
  refine wpAny_mono one (fun r s' hr' => ?_) fun _ _ e => e
  obtain ⟨v, rfl, hq⟩ := hr'
  ksp_lk
  exact hq
end
end DL.Own
namespace DL
open PySem PySem.Spec PyProof.Rows L2
section
variable {X : Cx} {F : Fm} {own : List Cell} {Q : QE} {k : Nat} {C C2 : Addr} {nm rn : Str} {pre : List D → Prop} {post : List D → D → Prop} {ns ns' : List Str} {ds ds' : List D} {op : Operator}
theorem O2.dL2 {sr s0 s1 : Sp} {kr k0 k1 : Nat} {CXa CXb CXc : CXT} (hCD : C ≠ C2) (hc : PySem.W.selfFirst X.K C = true) (hc2 : PySem.W.selfFirst X.K C2 = true) (hd : PySem.dunder op.info.2 = nm) (hd2 : dunderR op.info.2 = rn) (G : MOk X.prog X.w X.K X.mg X.base CX0 C nm k (spF X.K pre post))
    (Gr : MOk X.prog X.w X.K X.mg X.base CXa C rn kr sr) (G0 : MOk X.prog X.w X.K X.mg X.base CXb C2 nm k0 s0) (G1 : MOk X.prog X.w X.K X.mg X.base CXc C2 rn k1 s1) (hr : Room k X.A) (hsub : PySem.W.subIn X.K (.ref C2) (.ref C) = some false)
    (hp : pre [.ins C ns ds, .ins C2 ns' ds']) (h : ∀ d, post [.ins C ns ds, .ins C2 ns' ds'] d → Q own (.d d)) : O2 X F (.bin op) (.d (.ins C ns ds)) (.d (.ins C2 ns' ds')) Q own := by
  subst hd; subst hd2
  obtain ⟨f, fd, ps, a1, a2, a3, G, hb⟩ := G
  obtain ⟨f0, _, _, c1, _⟩ := Gr
  obtain ⟨g0, _, _, e1, _⟩ := G0
  obtain ⟨g1, _, _, e2, _⟩ := G1
  constructor
  intro ls H u v st rx ry Qv kk pins σ s uu vv I ru rv
  obtain ⟨a, dx, fs, rfl, ha⟩ := ins_at st rx
  obtain ⟨b, dy, gs, rfl, hb'⟩ := ins_at st ry
  cases ru; cases rv
  obtain ⟨mA, J, _⟩ := ins_get I.hok ha
  obtain ⟨mB, J', _⟩ := ins_get I.hok hb'
  obtain ⟨od, J, _⟩ := J.look
  obtain ⟨od', J', _⟩ := J'.look
  obtain ⟨m, hF⟩ := I.fr
  refine Own.left_K hF I.ok.mod.kin J J' hCD hc hc2 a1 c1 a2 e1 e2 hsub ?_
  exact thn (run_at (vs := [.ref a, .ref b]) G rfl hr hb I (.cons rfl (.cons rfl .nil)) (spF_use st (Reps.cons rx (Reps.cons ry Reps.nil)) hp kk h _)) fun u s q => ep_back q
end
end DL

/-! ratios: the plain law -/
namespace RT
/-- p over q is t over b in lowest terms -/
def Nrm (t b p q : Int) : Prop := 0 < q ∧ p * b = t * q ∧ Nat.gcd p.natAbs q.natAbs = 1
theorem nrm_core {t b : Int} {g : Int} (hg : g ≠ 0) (ht : g ∣ t) (hb : g ∣ b) (hga : g.natAbs = Nat.gcd t.natAbs b.natAbs) (hq : 0 < b.fdiv g) : Nrm t b (t.fdiv g) (b.fdiv g) := by
  obtain ⟨x, rfl⟩ := ht
  obtain ⟨y, rfl⟩ := hb
  have e1 : (g * x).fdiv g = x := Int.mul_fdiv_cancel_left x hg
  have e2 : (g * y).fdiv g = y := Int.mul_fdiv_cancel_left y hg
  rw [e1, e2]
  rw [e2] at hq
  refine ⟨hq, by rw [Int.mul_comm g y, Int.mul_comm g x, ← Int.mul_assoc, Int.mul_right_comm], ?_⟩
  rw [Int.natAbs_mul, Int.natAbs_mul, Nat.gcd_mul_left] at hga
  have h0 : 0 < g.natAbs := by omega
  have : g.natAbs * 1 = g.natAbs * Nat.gcd x.natAbs y.natAbs := by rw [← hga]; omega
  exact (Nat.eq_of_mul_eq_mul_left h0 this).symm
theorem gcd_ne {t b : Int} (hb : b ≠ 0) : ((Nat.gcd t.natAbs b.natAbs : Nat) : Int) ≠ 0 := by
  have : 0 < Nat.gcd t.natAbs b.natAbs := Nat.gcd_pos_of_pos_right _ (by omega)
  omega
theorem gcd_le {t b : Int} (hb : b ≠ 0) : Nat.gcd t.natAbs b.natAbs ≤ b.natAbs := Nat.le_of_dvd (by omega) (Nat.gcd_dvd_right _ _)
theorem gcd_dl {t b : Int} : ((Nat.gcd t.natAbs b.natAbs : Nat) : Int) ∣ t := Int.ofNat_dvd_left.mpr (Nat.gcd_dvd_left _ _)
theorem gcd_dr {t b : Int} : ((Nat.gcd t.natAbs b.natAbs : Nat) : Int) ∣ b := Int.ofNat_dvd_left.mpr (Nat.gcd_dvd_right _ _)
theorem nrm_pos {t b : Int} (hb : 0 < b) : Nrm t b (t.fdiv ((Nat.gcd t.natAbs b.natAbs : Nat) : Int)) (b.fdiv ((Nat.gcd t.natAbs b.natAbs : Nat) : Int)) := by
  have g0 := gcd_ne (t := t) (b := b) (by omega)
  refine nrm_core g0 gcd_dl gcd_dr (by rw [Int.natAbs_natCast]) ?_
  obtain ⟨y, e⟩ := gcd_dr (t := t) (b := b)
  have gp : (0 : Int) < ((Nat.gcd t.natAbs b.natAbs : Nat) : Int) := by omega
  generalize ((Nat.gcd t.natAbs b.natAbs : Nat) : Int) = g at *
  rw [e, Int.mul_fdiv_cancel_left y g0]
  exact Int.lt_of_mul_lt_mul_left (a := g) (by rw [Int.mul_zero, ← e]; exact hb) (by omega)
theorem nrm_neg {t b : Int} (hb : b < 0) : Nrm t b (t.fdiv (-((Nat.gcd t.natAbs b.natAbs : Nat) : Int))) (b.fdiv (-((Nat.gcd t.natAbs b.natAbs : Nat) : Int))) := by
  have g0 := gcd_ne (t := t) (b := b) (by omega)
  refine nrm_core (by omega) (Int.neg_dvd.mpr gcd_dl) (Int.neg_dvd.mpr gcd_dr) (by rw [Int.natAbs_neg, Int.natAbs_natCast]) ?_
  obtain ⟨y, e⟩ := gcd_dr (t := t) (b := b)
  have gp : (0 : Int) < ((Nat.gcd t.natAbs b.natAbs : Nat) : Int) := by omega
  generalize ((Nat.gcd t.natAbs b.natAbs : Nat) : Int) = g at *
  have e' : b = -g * -y := by rw [Int.neg_mul_neg]; exact e
  rw [e', Int.mul_fdiv_cancel_left (-y) (by omega)]
  exact Int.lt_of_mul_lt_mul_left (a := g) (by rw [Int.mul_zero, Int.mul_neg, ← e]; omega) (by omega)
theorem Nrm.conv {t b t' b' p q : Int} (h : Nrm t b p q) (hb : b ≠ 0) (e : t * b' = t' * b) : Nrm t' b' p q := by
  refine ⟨h.1, ?_, h.2.2⟩
  have h2 := h.2.1
  apply Int.eq_of_mul_eq_mul_right hb
  calc p * b' * b = (p * b) * b' := by rw [Int.mul_right_comm]
    _ = t * q * b' := by rw [h2]
    _ = t * b' * q := by rw [Int.mul_right_comm]
    _ = t' * b * q := by rw [e]
    _ = t' * q * b := by rw [Int.mul_right_comm]
theorem Nrm.le {t b p q : Int} (h : Nrm t b p q) (hb : b ≠ 0) : p.natAbs ≤ t.natAbs ∧ q.natAbs ≤ b.natAbs := by
  obtain ⟨hq, h2, h3⟩ := h
  have e : p.natAbs * b.natAbs = t.natAbs * q.natAbs := by rw [← Int.natAbs_mul, ← Int.natAbs_mul, h2]
  have d1 : q.natAbs ∣ b.natAbs := (Nat.Coprime.dvd_of_dvd_mul_left (m := p.natAbs) (by rw [Nat.Coprime, Nat.gcd_comm]; exact h3) ⟨t.natAbs, by rw [e, Nat.mul_comm]⟩)
  have d2 : p.natAbs ∣ t.natAbs := (Nat.Coprime.dvd_of_dvd_mul_right (n := q.natAbs) h3 ⟨b.natAbs, e.symm⟩)
  refine ⟨?_, Nat.le_of_dvd (by omega) d1⟩
  by_cases z : t.natAbs = 0
  · rw [z, Nat.zero_mul] at e
    have : p.natAbs = 0 := (Nat.mul_eq_zero.mp e).resolve_right (by omega)
    omega
  · exact Nat.le_of_dvd (by omega) d2
/-! ### Euclid's walk in a bounded number of turns -/
structure Eu (g B i o t : Nat) : Prop where
  gc : Nat.gcd o t = g
  sz : i = 0 ∨ (0 < o ∧ t < o ∧ o * t * 2 ^ (i - 1) < 2 ^ (2 * B))
theorem Eu.step {g B i o t : Nat} (h : Eu g B i o t) (ht : t ≠ 0) (hB : i = 0 → t < 2 ^ B) : Eu g B (i + 1) t (o % t) := by
  have hr : o % t < t := Nat.mod_lt _ (by omega)
  refine ⟨by rw [← h.gc, Nat.gcd_comm o t, Nat.gcd_rec t o, Nat.gcd_comm], .inr ⟨by omega, hr, ?_⟩⟩
  rcases h.sz with h0 | ⟨h1, h2, h3⟩
  · subst h0
    have hb := hB rfl
    simp only [Nat.zero_add, Nat.sub_self, Nat.pow_zero, Nat.mul_one]
    calc t * (o % t) < t * t := Nat.mul_lt_mul_of_pos_left hr (by omega)
      _ < 2 ^ B * 2 ^ B := Nat.mul_lt_mul'' hb hb
      _ = 2 ^ (2 * B) := by rw [← Nat.pow_add]; congr 1; omega
  · have key : 2 * (o % t) ≤ o := by
      have := Nat.div_add_mod o t
      have hd : 1 ≤ o / t := Nat.div_pos (by omega) (by omega)
      have : t * 1 ≤ t * (o / t) := Nat.mul_le_mul_left _ hd
      omega
    have hi : 1 ≤ i ∨ i = 0 := by omega
    rcases hi with hi | hi
    · have e : 2 ^ (i + 1 - 1) = 2 * 2 ^ (i - 1) := by rw [show i + 1 - 1 = (i - 1) + 1 from by omega, Nat.pow_succ, Nat.mul_comm]
      rw [e]
      calc t * (o % t) * (2 * 2 ^ (i - 1)) = t * (2 * (o % t)) * 2 ^ (i - 1) := by rw [← Nat.mul_assoc, Nat.mul_assoc t, Nat.mul_comm (o % t) 2]
        _ ≤ t * o * 2 ^ (i - 1) := Nat.mul_le_mul_right _ (Nat.mul_le_mul_left _ key)
        _ = o * t * 2 ^ (i - 1) := by rw [Nat.mul_comm t o]
        _ < 2 ^ (2 * B) := h3
    · subst hi
      simp only [Nat.zero_add, Nat.sub_self, Nat.pow_zero, Nat.mul_one]
      simp only [Nat.zero_sub, Nat.pow_zero, Nat.mul_one] at h3
      have : t * (o % t) ≤ t * o := Nat.mul_le_mul_left _ (by omega)
      rw [Nat.mul_comm o t] at h3
      omega
theorem Eu.last {g B o t : Nat} (h : Eu g B (2 * B + 2) o t) : o = g := by
  rcases h.sz with h0 | ⟨h1, h2, h3⟩
  · omega
  · have : t = 0 := by
      rcases Nat.eq_zero_or_pos t with z | z
      · exact z
      · exfalso
        have h4 : 1 * 2 ^ (2 * B + 2 - 1) ≤ o * t * 2 ^ (2 * B + 2 - 1) := Nat.mul_le_mul_right _ (Nat.mul_pos h1 z)
        have h5 : 2 ^ (2 * B) < 2 ^ (2 * B + 2 - 1) := Nat.pow_lt_pow_right (by omega) (by omega)
        omega
    have := h.gc
    rw [‹t = 0›, Nat.gcd_zero_right] at this
    exact this
theorem Eu.done {g B i o : Nat} (h : Eu g B i o 0) : o = g := by have := h.gc; rwa [Nat.gcd_zero_right] at this
end RT

namespace Toy
open PySem PySem.Spec PyProof.Rows L2 DL
def top (i : Nat) : Stmt := PySem.Challenge.pw_heightsfitted_k20_intervals_hold_numbers.main.body.getD i (.Pass ⟨0, 0, 0, 0⟩)
/-- the built-ins that the text leaves as they are -/
structure Bl (mg : Str → Option Value) : Prop where
  abs : mg "abs" = none
  int : mg "int" = none
  len : mg "len" = none
  list : mg "list" = none
  max : mg "max" = none
  range : mg "range" = none
  isinstance : mg "isinstance" = none
  bool : mg "bool" = none
  zip : mg "zip" = none
  tuple : mg "tuple" = none
  ni : mg "NotImplemented" = none

theorem szle {n : Nat} (h : n ≤ 100000) : n ≤ sizeLine := Nat.le_trans h (by decide)
theorem szlt {n : Nat} (h : n < 100000) : n < sizeLine := Nat.lt_of_lt_of_le h (by decide)
theorem sz0 : 0 ≤ sizeLine := by decide
theorem sz1 : 1 ≤ sizeLine := by decide
theorem sz2 : 2 ≤ sizeLine := by decide
theorem sz3 : 3 ≤ sizeLine := by decide
theorem sz4 : 4 ≤ sizeLine := by decide
theorem sz5 : 5 ≤ sizeLine := by decide
theorem sz6 : 6 ≤ sizeLine := by decide
theorem sz7 : 7 ≤ sizeLine := by decide
theorem bt_int : bootBuiltins "int" = some (.type "int") := by decide +kernel
theorem bt_list : bootBuiltins "list" = some (.type "list") := by decide +kernel
theorem bt_bool : bootBuiltins "bool" = some (.type "bool") := by decide +kernel
theorem bt_tuple : bootBuiltins "tuple" = some (.type "tuple") := by decide +kernel
theorem bt_str : bootBuiltins "str" = some (.type "str") := by decide +kernel
theorem bt_abs : bootBuiltins "abs" = some (.builtin "abs") := by decide +kernel
theorem bt_len : bootBuiltins "len" = some (.builtin "len") := by decide +kernel
theorem bt_max : bootBuiltins "max" = some (.builtin "max") := by decide +kernel
theorem bt_min : bootBuiltins "min" = some (.builtin "min") := by decide +kernel
theorem bt_isinstance : bootBuiltins "isinstance" = some (.builtin "isinstance") := by decide +kernel
theorem bt_sum : bootBuiltins "sum" = some (.builtin "sum") := by decide +kernel
theorem bt_sorted : bootBuiltins "sorted" = some (.builtin "sorted") := by decide +kernel
theorem at0 {α : Type} {a : α} {xs : List α} : atI (a :: xs) 0 = some a := atI_nat (j := 0) rfl
theorem at1 {α : Type} {a b : α} {xs : List α} : atI (a :: b :: xs) 1 = some b := atI_nat (j := 1) rfl
theorem at2 {α : Type} {a b c : α} {xs : List α} : atI (a :: b :: c :: xs) 2 = some c := atI_nat (j := 2) rfl
theorem ifd {p A B : Prop} [Decidable p] (h1 : p → A) (h2 : ¬ p → B) : if decide p = true then A else B := by
  by_cases h : p
  · rw [decide_eq_true h]; exact iteT (h1 h)
  · rw [decide_eq_false h]; exact iteF (h2 h)
theorem ifn {p A B : Prop} [Decidable p] (h1 : ¬ p → A) (h2 : p → B) : if (!decide p) = true then A else B := by
  by_cases h : p
  · rw [decide_eq_true h]; exact iteF (h2 h)
  · rw [decide_eq_false h]; exact iteT (h1 h)
theorem ifT {p A B : Prop} [Decidable p] (h : p) (a : A) : if decide p = true then A else B := by rw [decide_eq_true h]; exact iteT a
theorem ifF {p A B : Prop} [Decidable p] (h : ¬ p) (a : B) : if decide p = true then A else B := by rw [decide_eq_false h]; exact iteF a
theorem cut1 {a : D} {xs : List D} : DL.cutD (a :: xs) (some 1) none = xs := by
  unfold DL.cutD
  have e1 : HT.sIx (a :: xs).length 0 (some 1) = 1 := by simp [HT.sIx]
  have e2 : HT.sIx (a :: xs).length (a :: xs).length none = xs.length + 1 := by simp [HT.sIx]
  rw [e1, e2]
  simp
local macro_rules | `(tactic| walk_at "o") => `(tactic| first
  | refine O2.isN ?_ | refine O2.notN ?_ | refine O2.lt ?_ | refine O2.le ?_ | refine O2.gt ?_ | refine O2.ge ?_ | refine O2.eq ?_ | refine O2.ne ?_ | refine O2.add ?_ | refine O2.sub ?_ | refine O2.cat (by walk_at "sz") ?_
  | refine O2.mulS (.inr (by decide)) ?_ | refine O2.mulS (.inl (by decide)) ?_ | refine O2.mulS (.inl ⟨by omega, by omega⟩) ?_ | refine O2.mulS (.inr ⟨by omega, by omega⟩) ?_ | refine O2.mul (by walk_at "mul") ?_ | refine O2.mod (by first | decide | omega) ?_ | refine O2.fdiv (by first | decide | exact ⟨by omega, by omega⟩) ?_ | refine O2.fdivW (by walk_at "div") ?_ | refine O2.fdivA (by walk_at "divA") ?_
  | refine O2.pow ⟨by decide, by decide, by decide⟩ ?_ | refine O2.eqB ?_ | refine O2.neB ?_ | refine O2.eqS ?_ | refine O2.neS ?_ | refine O2.catS (by walk_at "sz") ?_)
local macro_rules | `(tactic| walk_at "div") => `(tactic| assumption)
local macro_rules | `(tactic| walk_at "mul") => `(tactic| assumption)
local macro_rules | `(tactic| walk_at "divA") => `(tactic| assumption)
local macro_rules | `(tactic| walk_at "u") => `(tactic| first | refine O1.neg ?_)
local macro_rules | `(tactic| walk_at "sz") => `(tactic| first | exact szle (by simp; omega) | exact szle (by simp) | exact szle (by omega) | exact szlt (by simp; omega) | exact szlt (by simp) | exact szlt (by omega))
local macro_rules | `(tactic| walk_at "ix") => `(tactic| first
  | refine Ix.cell rfl at0 ?_ | refine Ix.cell rfl at1 ?_ | refine Ix.cell rfl at2 ?_ | refine Ix.tup at0 ?_ | refine Ix.tup at1 ?_ | refine Ix.tup at2 ?_ | refine Ix.lst at0 ?_ | refine Ix.lst at1 ?_ | refine Ix.lst at2 ?_ | refine Ix.cell rfl (by walk_at "at") ?_ | refine Ix.lst (by walk_at "at") ?_ | refine Ix.tup (by walk_at "at") ?_)
local macro_rules | `(tactic| walk_at "at") => `(tactic| assumption)
local macro_rules | `(tactic| walk_at "cl") => `(tactic| first
  | refine Cl.int ?_ | refine Cl.abs ?_ | refine Cl.lenL ?_ | refine Cl.lenT ?_ | refine Cl.lenC rfl ?_ | refine Cl.listL ?_ | refine Cl.listT ?_ | refine Cl.tupleL ?_ | refine Cl.tupleT ?_ | refine Cl.max rfl ?_ | refine Cl.min rfl ?_ | refine Cl.gcd ?_ | refine Cl.boolI ?_)
local macro_rules | `(tactic| walk_at "tr") => `(tactic| first | refine Tr.bl ?_ | refine Tr.int ?_ | refine Tr.lst ?_)
local macro_rules | `(tactic| walk_at "sl") => `(tactic| first | refine Sl.lst ?_)
local macro_rules | `(tactic| walk_at "six") => `(tactic| refine ⟨_, _, _, _, rfl, rfl, rfl, (by first | rfl | walk_at "at"), ?_⟩)
local macro_rules | `(tactic| walk_at "app") => `(tactic| refine ⟨_, rfl, (by walk_at "sz"), ?_⟩)
local macro_rules | `(tactic| walk_at "disp") => `(tactic| first | refine ⟨[], rfl, sz0, ?_⟩ | refine ⟨[_], rfl, sz1, ?_⟩ | refine ⟨[_, _], rfl, sz2, ?_⟩ | refine ⟨[_, _, _], rfl, sz3, ?_⟩ | refine ⟨[_, _, _, _], rfl, sz4, ?_⟩ | refine ⟨[_, _, _, _, _], rfl, sz5, ?_⟩ | refine ⟨[_, _, _, _, _, _], rfl, sz6, ?_⟩ | refine ⟨[_, _, _, _, _, _, _], rfl, sz7, ?_⟩)
local macro_rules | `(tactic| walk_at "dispC") => `(tactic| first | refine ⟨sz0, ?_⟩ | refine ⟨sz1, ?_⟩ | refine ⟨sz2, ?_⟩ | refine ⟨sz3, ?_⟩)
local macro_rules | `(tactic| walk_at "n") => `(tactic| try dsimp only [List.set_cons_zero, List.set_cons_succ, List.set])

/-! ### ratios: what is known of the class -/
open RT
def Bd (k : Nat) (x : Int) : Prop := x.natAbs < 2 ^ k
theorem Bd.mono {a b : Nat} {x : Int} (h : Bd a x) (l : a ≤ b) : Bd b x := Nat.lt_of_lt_of_le h (Nat.pow_le_pow_right (by decide) l)
theorem mulB {i j : Int} (h : Bd 4000 i) (k : Bd 4000 j) : CMulX i j := mulx_ok (a := 4000) (b := 4000) h k (by decide)
theorem Bd.mul {a b : Nat} {x y : Int} (h : Bd a x) (k : Bd b y) : Bd (a + b) (x * y) := by
  show (x * y).natAbs < _
  rw [Int.natAbs_mul, Nat.pow_add]
  exact Nat.mul_lt_mul'' h k
theorem Bd.add {a b : Nat} {x y : Int} (h : Bd a x) (k : Bd b y) : Bd (max a b + 1) (x + y) := by
  have h1 := Bd.mono h (Nat.le_max_left a b)
  have h2 := Bd.mono k (Nat.le_max_right a b)
  have := Int.natAbs_add_le x y
  show (x + y).natAbs < _
  rw [Nat.pow_succ]
  unfold Bd at h1 h2
  omega
theorem Bd.neg {a : Nat} {x : Int} (h : Bd a x) : Bd a (-x) := by show (-x).natAbs < _; rw [Int.natAbs_neg]; exact h
theorem Bd.sub {a b : Nat} {x y : Int} (h : Bd a x) (k : Bd b y) : Bd (max a b + 1) (x - y) := by rw [Int.sub_eq_add_neg]; exact Bd.add h (Bd.neg k)
theorem Bd.abs {a : Nat} {x : Int} (h : Bd a x) : Bd a (x.natAbs : Int) := by show (x.natAbs : Int).natAbs < _; rw [Int.natAbs_natCast]; exact h
theorem Bd.le {a : Nat} {x y : Int} (h : Bd a x) (k : y.natAbs ≤ x.natAbs) : Bd a y := Nat.lt_of_le_of_lt k h
abbrev rat (C : Addr) (n d : Int) : D := .ins C ["top", "bottom"] [.int n, .int d]
def nu : D → Int
  | .int i => i
  | .ins _ _ (.int n :: _) => n
  | _ => 0
def de : D → Int
  | .ins _ _ (_ :: .int d :: _) => d
  | _ => 1
abbrev a0 (ds : List D) : D := ds.headD .non
abbrev a1 (ds : List D) : D := ds.tail.headD .non
def Ok (n d : Int) : Prop := 0 < d ∧ Bd 4000 n ∧ Bd 4000 d
def OkH (n d : Int) : Prop := 0 < d ∧ Bd 1900 n ∧ Bd 1900 d
theorem OkH.ok {n d : Int} (h : OkH n d) : Ok n d := ⟨h.1, h.2.1.mono (by decide), h.2.2.mono (by decide)⟩
def preH (C : Addr) : List D → Prop := fun ds => ∃ n d a b, ds = [rat C n d, rat C a b] ∧ Ok n d ∧ Ok a b ∧ OkH n d ∧ OkH a b
/-- one ratio; two ratios or a ratio and an int -/
def pre1 (C : Addr) : List D → Prop := fun ds => ∃ n d, ds = [rat C n d] ∧ Ok n d
def preI2 (C : Addr) : List D → Prop := fun ds => ∃ n d i, ds = [rat C n d, .int i] ∧ Ok n d ∧ Bd 4000 i
def preR2 (C : Addr) : List D → Prop := fun ds => ∃ n d a b, ds = [rat C n d, rat C a b] ∧ Ok n d ∧ Ok a b
def pre2 (C : Addr) : List D → Prop := fun ds => preR2 C ds ∨ preI2 C ds
/-- the ratio that stands for t over b -/
def isR (C : Addr) (t b : Int) (r : D) : Prop := ∃ p q, r = rat C p q ∧ Nrm t b p q
def postAdd (C : Addr) : List D → D → Prop := fun ds => isR C (nu (a0 ds) * de (a1 ds) + nu (a1 ds) * de (a0 ds)) (de (a0 ds) * de (a1 ds))
def postSub (C : Addr) : List D → D → Prop := fun ds => isR C (nu (a0 ds) * de (a1 ds) - nu (a1 ds) * de (a0 ds)) (de (a0 ds) * de (a1 ds))
def postRsub (C : Addr) : List D → D → Prop := fun ds => isR C (nu (a1 ds) * de (a0 ds) - nu (a0 ds)) (de (a0 ds))
def postMul (C : Addr) : List D → D → Prop := fun ds => isR C (nu (a0 ds) * nu (a1 ds)) (de (a0 ds) * de (a1 ds))
def postNeg (C : Addr) : List D → D → Prop := fun ds => isR C (-nu (a0 ds)) (de (a0 ds))
def postAbs (C : Addr) : List D → D → Prop := fun ds => isR C (nu (a0 ds)).natAbs (de (a0 ds))
def postOver (C : Addr) : List D → D → Prop := fun ds => isR C (nu (a0 ds) * de (a1 ds)) (de (a0 ds) * nu (a1 ds))
def isRat : D → Bool
  | .ins .. => true
  | _ => false
def postEq : List D → D → Prop := fun ds r => r = .bl (isRat (a1 ds) && (decide (nu (a0 ds) = nu (a1 ds)) && decide (de (a0 ds) = de (a1 ds))))
def postBool : List D → D → Prop := fun ds r => r = .bl (decide (nu (a0 ds) ≠ 0))
def sgn (x : Int) : Int := if x < 0 then -1 else if 0 < x then 1 else 0
def postSign : List D → D → Prop := fun ds r => r = .int (sgn (nu (a0 ds)))
def preI : List D → Prop := fun ds => ∃ t b : Int, ds = [.int t, .int b] ∧ b ≠ 0 ∧ Bd 8100 t ∧ Bd 8100 b
def preIX : List D → Prop := fun ds => ∃ t b : Int, ds = [.int t, .int b] ∧ Bd 8100 t ∧ Bd 8100 b
def postI : List D → List D → Prop := fun ds fs => ∃ p q, fs = [.int p, .int q] ∧ Nrm (nu (a0 ds)) (nu (a1 ds)) p q
def postIX : List D → List D → Prop := fun ds fs => postI ds fs ∧ nu (a1 ds) ≠ 0
def postOverX (C : Addr) : List D → D → Prop := fun ds r => postOver C ds r ∧ nu (a1 ds) ≠ 0
def excI (Z : Addr) : List D → Value → Prop := fun ds c => nu (a1 ds) = 0 ∧ c = .ref Z
def pre2O (C : Addr) : List D → Prop := fun ds => pre2 C ds ∧ nu (a1 ds) ≠ 0
structure RatT (K : PySem.W.Frag) (mg : Str → Option Value) (C : Addr) : Prop where
  mgR : mg "Ratio" = some (.ref C)
  cls : Cls K C
  nt : NoAttr K C "top"
  nb : NoAttr K C "bottom"
  gcd : mg "gcd" = some (.builtin "math.gcd")
  isc : IsC K C
  sf : PySem.W.selfFirst K C = true
  kRR : PySem.W.kitOne K (.ref C) (.ref C) = some true
  kIR : PySem.W.kitOne K (.type "int") (.ref C) = some false
  kII : PySem.W.kitOne K (.type "int") (.type "int") = some true
  kIB : PySem.W.kitOne K (.type "int") (.type "bool") = some false
  subI : PySem.W.subIn K (.type "int") (.ref C) = some false
  subC : PySem.W.subIn K (.ref C) (.type "int") = some false
  nfI : PySem.W.notFirst K C (.type "int") = true
  nfR : PySem.W.notFirst K C (.ref C) = true
  hne : PySem.W.findIn K (.ref C) "__ne__" = some (some (.builtin "object.__ne__"))
  hobj : PySem.W.subIn K (.ref C) (.type "object") = some true
  iA : ∃ fo, PySem.W.findIn K (.type "int") "__add__" = some fo
  iRA : ∃ fo, PySem.W.findIn K (.type "int") "__radd__" = some fo
  iS : ∃ fo, PySem.W.findIn K (.type "int") "__sub__" = some fo
  iRS : ∃ fo, PySem.W.findIn K (.type "int") "__rsub__" = some fo
  iM : ∃ fo, PySem.W.findIn K (.type "int") "__mul__" = some fo
  iRM : ∃ fo, PySem.W.findIn K (.type "int") "__rmul__" = some fo
theorem cdg {x t b : Int} (hb : b ≠ 0) (h : Bd 8100 b) : CDivA x ((Nat.gcd t.natAbs b.natAbs : Nat) : Int) := ⟨gcd_ne hb, by
  rw [Int.natAbs_natCast]; exact Nat.lt_of_le_of_lt (gcd_le hb) (Bd.mono (x := b) h (by decide))⟩
theorem cdgn {x t b : Int} (hb : b ≠ 0) (h : Bd 8100 b) : CDivA x (-((Nat.gcd t.natAbs b.natAbs : Nat) : Int)) := ⟨by have := gcd_ne (t := t) hb; omega, by
  rw [Int.natAbs_neg, Int.natAbs_natCast]; exact Nat.lt_of_le_of_lt (gcd_le hb) (Bd.mono (x := b) h (by decide))⟩
local macro_rules | `(tactic| walk_at "mul") => `(tactic| first | assumption | exact mulB (by assumption) (by assumption))
local macro_rules | `(tactic| walk_at "cl") => `(tactic| first
  | refine Cl.int ?_ | refine Cl.abs ?_ | refine Cl.lenL ?_ | refine Cl.lenT ?_ | refine Cl.lenC rfl ?_ | refine Cl.listL ?_ | refine Cl.listT ?_ | refine Cl.tupleL ?_ | refine Cl.tupleT ?_ | refine Cl.max rfl ?_ | refine Cl.min rfl ?_ | refine Cl.gcd ?_ | refine Cl.boolI ?_
  | refine Cl.isiIns (by assumption) (fun _ _ => clsv_ref) (by assumption) ?_ | refine Cl.isiInt (fun _ _ => clsv_ref) (by assumption) ?_ | refine Cl.isiInt (fun _ _ => clsv_ty) (by assumption) ?_)
theorem dn_add : PySem.dunder Operator.Add.info.2 = "__add__" := by decide +kernel
theorem dn_sub : PySem.dunder Operator.Sub.info.2 = "__sub__" := by decide +kernel
theorem dn_mul : PySem.dunder Operator.Mult.info.2 = "__mul__" := by decide +kernel
theorem dr_add : dunderR Operator.Add.info.2 = "__radd__" := by decide +kernel
theorem dr_sub : dunderR Operator.Sub.info.2 = "__rsub__" := by decide +kernel
theorem dr_mul : dunderR Operator.Mult.info.2 = "__rmul__" := by decide +kernel

section
variable {P : Program} {w : World} {K : PySem.W.Frag} {mg : Str → Option Value} {base : Heap} {C : Addr} {f : Addr} {fd : FuncData}
abbrev FI (K : PySem.W.Frag) (st : Stmt) (f : Addr) (fd : FuncData) : Prop := Fun K "__init__" "Ratio.__init__" st f fd ∨ ∃ dvs kws, FunD K "__init__" "Ratio.__init__" (defArgs st) (defBody st) (defScope st) dvs kws f fd
abbrev sInit : Stmt := inClass (top 16) 0
theorem scInit : FnScope ["self", "top", "bottom", "common"] ["self", "top", "bottom"] (defScope sInit) := ⟨rfl, rfl, rfl, by decide +kernel, rfl, by decide +kernel, by decide +kernel⟩
theorem ok_init (F : FI K sInit f fd) (B : Bl mg) (tR : RatT K mg C) : FnOk P w K mg base CX0 1 f fd ["self", "top", "bottom"] (spI K C ["top", "bottom"] preI postI) := by
  refine ok_I F scInit (fun ds ⟨t, b, e, _⟩ => by rw [e]; rfl) fun cdv Ar outer sh Hp0 xE Fr ds hr ⟨t, b, e, hb, h1, h2⟩ => ?_
  subst e
  have nd := scInit.nd
  show W _ _ _ _ _ [some (.c 0), some (.d (.int t)), some (.d (.int b)), none]
  refine W.cons ?_
  refine W1.iff ?_
  refine T.cmp ?_
  refine E.var 2 rfl ?_
  refine E.int ?_
  walk_at "o"
  refine ⟨_, rfl, ?_⟩
  refine ifF hb ?_
  refine W.nil ?_
  refine W.cons ?_
  refine W1.set 3 ?_ nd
  refine E.callG tR.gcd ?_
  refine A.cons ?_
  refine E.var 1 rfl ?_
  refine A.cons ?_
  refine E.var 2 rfl ?_
  refine A.nil ?_
  walk_at "cl"
  walk_at "n"
  refine W.cons ?_
  refine W1.iff ?_
  refine T.cmp ?_
  refine E.var 2 rfl ?_
  refine E.int ?_
  walk_at "o"
  refine ⟨_, rfl, ?_⟩
  refine ifd (fun h => ?_) (fun h => ?_)
  · have g1 : CDivA t (-((Nat.gcd t.natAbs b.natAbs : Nat) : Int)) := cdgn hb h2
    have g2 : CDivA b (-((Nat.gcd t.natAbs b.natAbs : Nat) : Int)) := cdgn hb h2
    refine W.cons ?_
    refine W1.set 3 ?_ nd
    refine E.un ?_
    refine E.var 3 rfl ?_
    walk_at "u"
    walk_at "n"
    refine W.nil ?_
    refine W.cons ?_
    refine W1.fldN ?_
    refine E.bin ?_
    refine E.var 1 rfl ?_
    refine E.var 3 rfl ?_
    walk_at "o"
    refine E.var 0 rfl ?_
    refine ⟨_, _, _, _, rfl, rfl, tR.cls, tR.nt, by decide, by simp, ?_⟩
    refine W.cons ?_
    refine W1.fldN ?_
    refine E.bin ?_
    refine E.var 2 rfl ?_
    refine E.var 3 rfl ?_
    walk_at "o"
    refine E.var 0 rfl ?_
    refine ⟨_, _, _, _, rfl, rfl, tR.cls, tR.nb, by decide, by simp, ?_⟩
    exact W.nil ⟨[.int _, .int _], rfl, _, _, rfl, nrm_neg h⟩
  · have g1 : CDivA t ((Nat.gcd t.natAbs b.natAbs : Nat) : Int) := cdg hb h2
    have g2 : CDivA b ((Nat.gcd t.natAbs b.natAbs : Nat) : Int) := cdg hb h2
    refine W.nil ?_
    refine W.cons ?_
    refine W1.fldN ?_
    refine E.bin ?_
    refine E.var 1 rfl ?_
    refine E.var 3 rfl ?_
    walk_at "o"
    refine E.var 0 rfl ?_
    refine ⟨_, _, _, _, rfl, rfl, tR.cls, tR.nt, by decide, by simp, ?_⟩
    refine W.cons ?_
    refine W1.fldN ?_
    refine E.bin ?_
    refine E.var 2 rfl ?_
    refine E.var 3 rfl ?_
    walk_at "o"
    refine E.var 0 rfl ?_
    refine ⟨_, _, _, _, rfl, rfl, tR.cls, tR.nb, by decide, by simp, ?_⟩
    exact W.nil ⟨[.int _, .int _], rfl, _, _, rfl, nrm_pos (t := t) (b := b) (by omega)⟩
/-- the error for a bottom that is zero -/
structure ZdT (K : PySem.W.Frag) (mg : Str → Option Value) (Z : Addr) : Prop where
  mgZ : mg "ZeroDivisor" = some (.ref Z)
  kZ : PySem.W.keepIn K (.ref Z) = true
  ex : PySem.W.excIn K Z [.type "ValueError", .type "Exception", .type "BaseException", .type "object"] "ValueError.__new__" = true
  r1 : PySem.W.subIn K (.ref Z) (.type "BaseException") = some true
  r2 : PySem.W.typeIn K (.ref Z) = some (.type "type")
theorem ok_initX {Z : Addr} (F : FI K sInit f fd) (B : Bl mg) (tR : RatT K mg C) (TZ : ZdT K mg Z) : FnOk P w K mg base (L2.CX P w) 1 f fd ["self", "top", "bottom"] (spIX K C ["top", "bottom"] preIX postIX (excI Z)) := by
  refine ok_IX F scInit (fun ds ⟨t, b, e, _⟩ => by rw [e]; rfl) fun cdv Ar outer sh Hp0 xE Fr ds hr ⟨t, b, e, h1, h2⟩ tk => ?_
  subst e
  have nd := scInit.nd
  show W _ _ _ _ _ [some (.c 0), some (.d (.int t)), some (.d (.int b)), none]
  refine W.cons ?_
  refine W1.iff ?_
  refine T.cmp ?_
  refine E.var 2 rfl ?_
  refine E.int ?_
  walk_at "o"
  refine ⟨_, rfl, ?_⟩
  refine ifd (fun hb => ?_) (fun hb => ?_)
  · exact W.cons (W1.raise rfl tk PySem.F.excBase_ValueError TZ.ex TZ.mgZ TZ.kZ (raises_own TZ.r1 TZ.r2) ⟨hb, rfl⟩)
  refine W.nil ?_
  refine W.cons ?_
  refine W1.set 3 ?_ nd
  refine E.callG tR.gcd ?_
  refine A.cons ?_
  refine E.var 1 rfl ?_
  refine A.cons ?_
  refine E.var 2 rfl ?_
  refine A.nil ?_
  walk_at "cl"
  walk_at "n"
  refine W.cons ?_
  refine W1.iff ?_
  refine T.cmp ?_
  refine E.var 2 rfl ?_
  refine E.int ?_
  walk_at "o"
  refine ⟨_, rfl, ?_⟩
  refine ifd (fun h => ?_) (fun h => ?_)
  · have g1 : CDivA t (-((Nat.gcd t.natAbs b.natAbs : Nat) : Int)) := cdgn hb h2
    have g2 : CDivA b (-((Nat.gcd t.natAbs b.natAbs : Nat) : Int)) := cdgn hb h2
    refine W.cons ?_
    refine W1.set 3 ?_ nd
    refine E.un ?_
    refine E.var 3 rfl ?_
    walk_at "u"
    walk_at "n"
    refine W.nil ?_
    refine W.cons ?_
    refine W1.fldN ?_
    refine E.bin ?_
    refine E.var 1 rfl ?_
    refine E.var 3 rfl ?_
    walk_at "o"
    refine E.var 0 rfl ?_
    refine ⟨_, _, _, _, rfl, rfl, tR.cls, tR.nt, by decide, by simp, ?_⟩
    refine W.cons ?_
    refine W1.fldN ?_
    refine E.bin ?_
    refine E.var 2 rfl ?_
    refine E.var 3 rfl ?_
    walk_at "o"
    refine E.var 0 rfl ?_
    refine ⟨_, _, _, _, rfl, rfl, tR.cls, tR.nb, by decide, by simp, ?_⟩
    exact W.nil ⟨[.int _, .int _], rfl, ⟨_, _, rfl, nrm_neg h⟩, hb⟩
  · have g1 : CDivA t ((Nat.gcd t.natAbs b.natAbs : Nat) : Int) := cdg hb h2
    have g2 : CDivA b ((Nat.gcd t.natAbs b.natAbs : Nat) : Int) := cdg hb h2
    refine W.nil ?_
    refine W.cons ?_
    refine W1.fldN ?_
    refine E.bin ?_
    refine E.var 1 rfl ?_
    refine E.var 3 rfl ?_
    walk_at "o"
    refine E.var 0 rfl ?_
    refine ⟨_, _, _, _, rfl, rfl, tR.cls, tR.nt, by decide, by simp, ?_⟩
    refine W.cons ?_
    refine W1.fldN ?_
    refine E.bin ?_
    refine E.var 2 rfl ?_
    refine E.var 3 rfl ?_
    walk_at "o"
    refine E.var 0 rfl ?_
    refine ⟨_, _, _, _, rfl, rfl, tR.cls, tR.nb, by decide, by simp, ?_⟩
    exact W.nil ⟨[.int _, .int _], rfl, ⟨_, _, rfl, nrm_pos (t := t) (b := b) (by omega)⟩, hb⟩
/-- what all methods lean on -/
structure RatB (P : Program) (w : World) (K : PySem.W.Frag) (mg : Str → Option Value) (base : Heap) (C : Addr) : Prop where
  B : Bl mg
  tR : RatT K mg C
  MI : IOk P w K mg base CX0 C 1 [] (spI K C ["top", "bottom"] preI postI)
abbrev sAdd : Stmt := inClass (top 16) 1
theorem scAdd : FnScope ["self", "other"] ["self", "other"] (defScope sAdd) := ⟨rfl, rfl, rfl, by decide +kernel, rfl, by decide +kernel, by decide +kernel⟩
theorem ok_add (F : Dm K C "__add__" "Ratio.__add__" sAdd ["self", "other"] f fd) (RB : RatB P w K mg base C) : FnOk P w K mg base CX0 3 f fd ["self", "other"] (spF K (pre2 C) (postAdd C)) := by
  obtain ⟨B, tR, MI⟩ := RB
  refine ok_F F.fn scAdd (fun ds h => by rcases h with ⟨_, _, _, _, e, _⟩ | ⟨_, _, _, e, _⟩ <;> rw [e] <;> rfl) fun cdv Ar outer sh Hp0 xE Fr ds hr hm hp => ?_
  have nd := scAdd.nd
  have q1 := tR.isc
  have q2 := tR.kRR
  have q3 := tR.kIR
  have q4 := tR.kII
  rcases hp with ⟨n, d, a, b, e, ⟨hd, n1, d1⟩, ⟨hb, n2, d2⟩⟩ | ⟨n, d, i, e, ⟨hd, n1, d1⟩, n2⟩
  · subst e
    show W _ _ _ _ _ [some (.d (rat C n d)), some (.d (rat C a b))]
    refine W.cons ?_
    refine W1.iff ?_
    refine T.truth ?_
    refine E.callB B.isinstance bt_isinstance ?_
    refine A.cons ?_
    refine E.var 1 rfl ?_
    refine A.cons ?_
    refine E.globR tR.mgR ?_
    refine A.nil ?_
    walk_at "cl"
    walk_at "tr"
    refine iteT ?_
    refine W.cons ?_
    refine W1.ret ?_
    refine E.dmake MI tR.mgR (hr.mono (by decide)) ?_
    refine A.cons ?_
    refine E.bin ?_
    refine E.bin ?_
    refine E.fld ?_
    refine E.var 0 rfl ?_
    refine ⟨_, _, _, _, rfl, tR.cls, tR.nt, rfl, ?_⟩
    refine E.fld ?_
    refine E.var 1 rfl ?_
    refine ⟨_, _, _, _, rfl, tR.cls, tR.nb, rfl, ?_⟩
    walk_at "o"
    refine E.bin ?_
    refine E.fld ?_
    refine E.var 1 rfl ?_
    refine ⟨_, _, _, _, rfl, tR.cls, tR.nt, rfl, ?_⟩
    refine E.fld ?_
    refine E.var 0 rfl ?_
    refine ⟨_, _, _, _, rfl, tR.cls, tR.nb, rfl, ?_⟩
    walk_at "o"
    walk_at "o"
    refine A.cons ?_
    refine E.bin ?_
    refine E.fld ?_
    refine E.var 0 rfl ?_
    refine ⟨_, _, _, _, rfl, tR.cls, tR.nb, rfl, ?_⟩
    refine E.fld ?_
    refine E.var 1 rfl ?_
    refine ⟨_, _, _, _, rfl, tR.cls, tR.nb, rfl, ?_⟩
    walk_at "o"
    refine A.nil ?_
    refine ⟨[.int _, .int _], rfl, ⟨_, _, rfl, Int.mul_ne_zero (by omega) (by omega), (Bd.add (Bd.mul n1 d2) (Bd.mul n2 d1)).mono (by decide), (Bd.mul d1 d2).mono (by decide)⟩, ?_⟩
    rintro fs ⟨p, q, rfl, hn⟩
    exact ⟨_, rfl, p, q, rfl, hn⟩
  · subst e
    show W _ _ _ _ _ [some (.d (rat C n d)), some (.d (.int i))]
    refine W.cons ?_
    refine W1.iff ?_
    refine T.truth ?_
    refine E.callB B.isinstance bt_isinstance ?_
    refine A.cons ?_
    refine E.var 1 rfl ?_
    refine A.cons ?_
    refine E.globR tR.mgR ?_
    refine A.nil ?_
    walk_at "cl"
    walk_at "tr"
    refine iteF (W.nil ?_)
    refine W.cons ?_
    refine W1.iff ?_
    refine T.truth ?_
    refine E.callB B.isinstance bt_isinstance ?_
    refine A.cons ?_
    refine E.var 1 rfl ?_
    refine A.cons ?_
    refine E.bty B.int bt_int ?_
    refine A.nil ?_
    walk_at "cl"
    walk_at "tr"
    refine iteT ?_
    refine W.cons ?_
    refine W1.ret ?_
    refine E.dmake MI tR.mgR (hr.mono (by decide)) ?_
    refine A.cons ?_
    refine E.bin ?_
    refine E.fld ?_
    refine E.var 0 rfl ?_
    refine ⟨_, _, _, _, rfl, tR.cls, tR.nt, rfl, ?_⟩
    refine E.bin ?_
    refine E.var 1 rfl ?_
    refine E.fld ?_
    refine E.var 0 rfl ?_
    refine ⟨_, _, _, _, rfl, tR.cls, tR.nb, rfl, ?_⟩
    walk_at "o"
    walk_at "o"
    refine A.cons ?_
    refine E.fld ?_
    refine E.var 0 rfl ?_
    refine ⟨_, _, _, _, rfl, tR.cls, tR.nb, rfl, ?_⟩
    refine A.nil ?_
    refine ⟨[.int _, .int _], rfl, ⟨_, _, rfl, by omega, (Bd.add n1 (Bd.mul n2 d1)).mono (by decide), d1.mono (by decide)⟩, ?_⟩
    rintro fs ⟨p, q, rfl, hn⟩
    refine ⟨_, rfl, p, q, rfl, ?_⟩
    show Nrm (n * 1 + i * d) (d * 1) p q
    rw [Int.mul_one, Int.mul_one]; exact hn
abbrev sSub : Stmt := inClass (top 16) 3
theorem scSub : FnScope ["self", "other"] ["self", "other"] (defScope sSub) := ⟨rfl, rfl, rfl, by decide +kernel, rfl, by decide +kernel, by decide +kernel⟩
theorem ok_sub (F : Dm K C "__sub__" "Ratio.__sub__" sSub ["self", "other"] f fd) (RB : RatB P w K mg base C) : FnOk P w K mg base CX0 3 f fd ["self", "other"] (spF K (pre2 C) (postSub C)) := by
  obtain ⟨B, tR, MI⟩ := RB
  refine ok_F F.fn scSub (fun ds h => by rcases h with ⟨_, _, _, _, e, _⟩ | ⟨_, _, _, e, _⟩ <;> rw [e] <;> rfl) fun cdv Ar outer sh Hp0 xE Fr ds hr hm hp => ?_
  have nd := scSub.nd
  have q1 := tR.isc
  have q2 := tR.kRR
  have q3 := tR.kIR
  have q4 := tR.kII
  rcases hp with ⟨n, d, a, b, e, ⟨hd, n1, d1⟩, ⟨hb, n2, d2⟩⟩ | ⟨n, d, i, e, ⟨hd, n1, d1⟩, n2⟩
  · subst e
    show W _ _ _ _ _ [some (.d (rat C n d)), some (.d (rat C a b))]
    refine W.cons ?_
    refine W1.iff ?_
    refine T.truth ?_
    refine E.callB B.isinstance bt_isinstance ?_
    refine A.cons ?_
    refine E.var 1 rfl ?_
    refine A.cons ?_
    refine E.globR tR.mgR ?_
    refine A.nil ?_
    walk_at "cl"
    walk_at "tr"
    refine iteT ?_
    refine W.cons ?_
    refine W1.ret ?_
    refine E.dmake MI tR.mgR (hr.mono (by decide)) ?_
    refine A.cons ?_
    refine E.bin ?_
    refine E.bin ?_
    refine E.fld ?_
    refine E.var 0 rfl ?_
    refine ⟨_, _, _, _, rfl, tR.cls, tR.nt, rfl, ?_⟩
    refine E.fld ?_
    refine E.var 1 rfl ?_
    refine ⟨_, _, _, _, rfl, tR.cls, tR.nb, rfl, ?_⟩
    walk_at "o"
    refine E.bin ?_
    refine E.fld ?_
    refine E.var 1 rfl ?_
    refine ⟨_, _, _, _, rfl, tR.cls, tR.nt, rfl, ?_⟩
    refine E.fld ?_
    refine E.var 0 rfl ?_
    refine ⟨_, _, _, _, rfl, tR.cls, tR.nb, rfl, ?_⟩
    walk_at "o"
    walk_at "o"
    refine A.cons ?_
    refine E.bin ?_
    refine E.fld ?_
    refine E.var 0 rfl ?_
    refine ⟨_, _, _, _, rfl, tR.cls, tR.nb, rfl, ?_⟩
    refine E.fld ?_
    refine E.var 1 rfl ?_
    refine ⟨_, _, _, _, rfl, tR.cls, tR.nb, rfl, ?_⟩
    walk_at "o"
    refine A.nil ?_
    refine ⟨[.int _, .int _], rfl, ⟨_, _, rfl, Int.mul_ne_zero (by omega) (by omega), (Bd.sub (Bd.mul n1 d2) (Bd.mul n2 d1)).mono (by decide), (Bd.mul d1 d2).mono (by decide)⟩, ?_⟩
    rintro fs ⟨p, q, rfl, hn⟩
    exact ⟨_, rfl, p, q, rfl, hn⟩
  · subst e
    show W _ _ _ _ _ [some (.d (rat C n d)), some (.d (.int i))]
    refine W.cons ?_
    refine W1.iff ?_
    refine T.truth ?_
    refine E.callB B.isinstance bt_isinstance ?_
    refine A.cons ?_
    refine E.var 1 rfl ?_
    refine A.cons ?_
    refine E.globR tR.mgR ?_
    refine A.nil ?_
    walk_at "cl"
    walk_at "tr"
    refine iteF (W.nil ?_)
    refine W.cons ?_
    refine W1.iff ?_
    refine T.truth ?_
    refine E.callB B.isinstance bt_isinstance ?_
    refine A.cons ?_
    refine E.var 1 rfl ?_
    refine A.cons ?_
    refine E.bty B.int bt_int ?_
    refine A.nil ?_
    walk_at "cl"
    walk_at "tr"
    refine iteT ?_
    refine W.cons ?_
    refine W1.ret ?_
    refine E.dmake MI tR.mgR (hr.mono (by decide)) ?_
    refine A.cons ?_
    refine E.bin ?_
    refine E.fld ?_
    refine E.var 0 rfl ?_
    refine ⟨_, _, _, _, rfl, tR.cls, tR.nt, rfl, ?_⟩
    refine E.bin ?_
    refine E.var 1 rfl ?_
    refine E.fld ?_
    refine E.var 0 rfl ?_
    refine ⟨_, _, _, _, rfl, tR.cls, tR.nb, rfl, ?_⟩
    walk_at "o"
    walk_at "o"
    refine A.cons ?_
    refine E.fld ?_
    refine E.var 0 rfl ?_
    refine ⟨_, _, _, _, rfl, tR.cls, tR.nb, rfl, ?_⟩
    refine A.nil ?_
    refine ⟨[.int _, .int _], rfl, ⟨_, _, rfl, by omega, (Bd.sub n1 (Bd.mul n2 d1)).mono (by decide), d1.mono (by decide)⟩, ?_⟩
    rintro fs ⟨p, q, rfl, hn⟩
    refine ⟨_, rfl, p, q, rfl, ?_⟩
    show Nrm (n * 1 - i * d) (d * 1) p q
    rw [Int.mul_one, Int.mul_one]; exact hn
abbrev sMul : Stmt := inClass (top 16) 5
theorem scMul : FnScope ["self", "other"] ["self", "other"] (defScope sMul) := ⟨rfl, rfl, rfl, by decide +kernel, rfl, by decide +kernel, by decide +kernel⟩
theorem ok_mul (F : Dm K C "__mul__" "Ratio.__mul__" sMul ["self", "other"] f fd) (RB : RatB P w K mg base C) : FnOk P w K mg base CX0 3 f fd ["self", "other"] (spF K (pre2 C) (postMul C)) := by
  obtain ⟨B, tR, MI⟩ := RB
  refine ok_F F.fn scMul (fun ds h => by rcases h with ⟨_, _, _, _, e, _⟩ | ⟨_, _, _, e, _⟩ <;> rw [e] <;> rfl) fun cdv Ar outer sh Hp0 xE Fr ds hr hm hp => ?_
  have nd := scMul.nd
  have q1 := tR.isc
  have q2 := tR.kRR
  have q3 := tR.kIR
  have q4 := tR.kII
  rcases hp with ⟨n, d, a, b, e, ⟨hd, n1, d1⟩, ⟨hb, n2, d2⟩⟩ | ⟨n, d, i, e, ⟨hd, n1, d1⟩, n2⟩
  · subst e
    show W _ _ _ _ _ [some (.d (rat C n d)), some (.d (rat C a b))]
    refine W.cons ?_
    refine W1.iff ?_
    refine T.truth ?_
    refine E.callB B.isinstance bt_isinstance ?_
    refine A.cons ?_
    refine E.var 1 rfl ?_
    refine A.cons ?_
    refine E.globR tR.mgR ?_
    refine A.nil ?_
    walk_at "cl"
    walk_at "tr"
    refine iteT ?_
    refine W.cons ?_
    refine W1.ret ?_
    refine E.dmake MI tR.mgR (hr.mono (by decide)) ?_
    refine A.cons ?_
    refine E.bin ?_
    refine E.fld ?_
    refine E.var 0 rfl ?_
    refine ⟨_, _, _, _, rfl, tR.cls, tR.nt, rfl, ?_⟩
    refine E.fld ?_
    refine E.var 1 rfl ?_
    refine ⟨_, _, _, _, rfl, tR.cls, tR.nt, rfl, ?_⟩
    walk_at "o"
    refine A.cons ?_
    refine E.bin ?_
    refine E.fld ?_
    refine E.var 0 rfl ?_
    refine ⟨_, _, _, _, rfl, tR.cls, tR.nb, rfl, ?_⟩
    refine E.fld ?_
    refine E.var 1 rfl ?_
    refine ⟨_, _, _, _, rfl, tR.cls, tR.nb, rfl, ?_⟩
    walk_at "o"
    refine A.nil ?_
    refine ⟨[.int _, .int _], rfl, ⟨_, _, rfl, Int.mul_ne_zero (by omega) (by omega), (Bd.mul n1 n2).mono (by decide), (Bd.mul d1 d2).mono (by decide)⟩, ?_⟩
    rintro fs ⟨p, q, rfl, hn⟩
    exact ⟨_, rfl, p, q, rfl, hn⟩
  · subst e
    show W _ _ _ _ _ [some (.d (rat C n d)), some (.d (.int i))]
    refine W.cons ?_
    refine W1.iff ?_
    refine T.truth ?_
    refine E.callB B.isinstance bt_isinstance ?_
    refine A.cons ?_
    refine E.var 1 rfl ?_
    refine A.cons ?_
    refine E.globR tR.mgR ?_
    refine A.nil ?_
    walk_at "cl"
    walk_at "tr"
    refine iteF (W.nil ?_)
    refine W.cons ?_
    refine W1.iff ?_
    refine T.truth ?_
    refine E.callB B.isinstance bt_isinstance ?_
    refine A.cons ?_
    refine E.var 1 rfl ?_
    refine A.cons ?_
    refine E.bty B.int bt_int ?_
    refine A.nil ?_
    walk_at "cl"
    walk_at "tr"
    refine iteT ?_
    refine W.cons ?_
    refine W1.ret ?_
    refine E.dmake MI tR.mgR (hr.mono (by decide)) ?_
    refine A.cons ?_
    refine E.bin ?_
    refine E.fld ?_
    refine E.var 0 rfl ?_
    refine ⟨_, _, _, _, rfl, tR.cls, tR.nt, rfl, ?_⟩
    refine E.var 1 rfl ?_
    walk_at "o"
    refine A.cons ?_
    refine E.fld ?_
    refine E.var 0 rfl ?_
    refine ⟨_, _, _, _, rfl, tR.cls, tR.nb, rfl, ?_⟩
    refine A.nil ?_
    refine ⟨[.int _, .int _], rfl, ⟨_, _, rfl, by omega, (Bd.mul n1 n2).mono (by decide), d1.mono (by decide)⟩, ?_⟩
    rintro fs ⟨p, q, rfl, hn⟩
    refine ⟨_, rfl, p, q, rfl, ?_⟩
    show Nrm (n * i) (d * 1) p q
    rw [Int.mul_one]; exact hn
abbrev sNeg : Stmt := inClass (top 16) 7
theorem scNeg : FnScope ["self"] ["self"] (defScope sNeg) := ⟨rfl, rfl, rfl, by decide +kernel, rfl, by decide +kernel, by decide +kernel⟩
theorem ok_neg (F : Dm K C "__neg__" "Ratio.__neg__" sNeg ["self"] f fd) (RB : RatB P w K mg base C) : FnOk P w K mg base CX0 3 f fd ["self"] (spF K (pre1 C) (postNeg C)) := by
  obtain ⟨B, tR, MI⟩ := RB
  refine ok_F F.fn scNeg (fun ds h => by obtain ⟨_, _, e, _⟩ := h; rw [e]; rfl) fun cdv Ar outer sh Hp0 xE Fr ds hr hm ⟨n, d, e, hd, n1, d1⟩ => ?_
  have nd := scNeg.nd
  subst e
  show W _ _ _ _ _ [some (.d (rat C n d))]
  refine W.cons ?_
  refine W1.ret ?_
  refine E.dmake MI tR.mgR (hr.mono (by decide)) ?_
  refine A.cons ?_
  refine E.un ?_
  refine E.fld ?_
  refine E.var 0 rfl ?_
  refine ⟨_, _, _, _, rfl, tR.cls, tR.nt, rfl, ?_⟩
  walk_at "u"
  refine A.cons ?_
  refine E.fld ?_
  refine E.var 0 rfl ?_
  refine ⟨_, _, _, _, rfl, tR.cls, tR.nb, rfl, ?_⟩
  refine A.nil ?_
  refine ⟨[.int _, .int _], rfl, ⟨_, _, rfl, by omega, (Bd.neg n1).mono (by decide), d1.mono (by decide)⟩, ?_⟩
  rintro fs ⟨p, q, rfl, hn⟩
  exact ⟨_, rfl, p, q, rfl, hn⟩
abbrev sAbs : Stmt := inClass (top 16) 8
theorem scAbs : FnScope ["self"] ["self"] (defScope sAbs) := ⟨rfl, rfl, rfl, by decide +kernel, rfl, by decide +kernel, by decide +kernel⟩
theorem ok_abs (F : Dm K C "__abs__" "Ratio.__abs__" sAbs ["self"] f fd) (RB : RatB P w K mg base C) : FnOk P w K mg base CX0 3 f fd ["self"] (spF K (pre1 C) (postAbs C)) := by
  obtain ⟨B, tR, MI⟩ := RB
  refine ok_F F.fn scAbs (fun ds h => by obtain ⟨_, _, e, _⟩ := h; rw [e]; rfl) fun cdv Ar outer sh Hp0 xE Fr ds hr hm ⟨n, d, e, hd, n1, d1⟩ => ?_
  have nd := scAbs.nd
  subst e
  show W _ _ _ _ _ [some (.d (rat C n d))]
  refine W.cons ?_
  refine W1.ret ?_
  refine E.dmake MI tR.mgR (hr.mono (by decide)) ?_
  refine A.cons ?_
  refine E.callB B.abs bt_abs ?_
  refine A.cons ?_
  refine E.fld ?_
  refine E.var 0 rfl ?_
  refine ⟨_, _, _, _, rfl, tR.cls, tR.nt, rfl, ?_⟩
  refine A.nil ?_
  walk_at "cl"
  refine A.cons ?_
  refine E.fld ?_
  refine E.var 0 rfl ?_
  refine ⟨_, _, _, _, rfl, tR.cls, tR.nb, rfl, ?_⟩
  refine A.nil ?_
  refine ⟨[.int _, .int _], rfl, ⟨_, _, rfl, by omega, (Bd.abs n1).mono (by decide), d1.mono (by decide)⟩, ?_⟩
  rintro fs ⟨p, q, rfl, hn⟩
  exact ⟨_, rfl, p, q, rfl, hn⟩
abbrev sRadd : Stmt := inClass (top 16) 2
theorem scRadd : FnScope ["self", "other"] ["self", "other"] (defScope sRadd) := ⟨rfl, rfl, rfl, by decide +kernel, rfl, by decide +kernel, by decide +kernel⟩
theorem ok_radd (F : Dm K C "__radd__" "Ratio.__radd__" sRadd ["self", "other"] f fd) (RB : RatB P w K mg base C) (MAdd : MOk P w K mg base CX0 C "__add__" 3 (spF K (pre2 C) (postAdd C))) : FnOk P w K mg base CX0 4 f fd ["self", "other"] (spF K (preI2 C) (postAdd C)) := by
  obtain ⟨B, tR, MI⟩ := RB
  have MRadd : MOk P w K mg base CX0 C "__radd__" 0 (fun _ _ _ _ => False) := F.ok ⟨fun _ _ _ _ h => h.elim, fun _ _ _ _ _ _ _ _ _ _ _ _ _ h => h.elim⟩
  refine ok_F F.fn scRadd (fun ds h => by obtain ⟨_, _, _, e, _⟩ := h; rw [e]; rfl) fun cdv Ar outer sh Hp0 xE Fr ds hr hm ⟨n, d, i, e, ok, n2⟩ => ?_
  have nd := scRadd.nd
  subst e
  show W _ _ _ _ _ [some (.d (rat C n d)), some (.d (.int i))]
  refine W.cons ?_
  refine W1.ret ?_
  refine E.bin ?_
  refine E.var 0 rfl ?_
  refine E.var 1 rfl ?_
  exact O2.dI tR.sf dn_add dr_add MAdd MRadd (hr.mono (by decide)) tR.iA tR.iRA tR.subI (.inr ⟨_, _, _, rfl, ok, n2⟩) fun d hd => ⟨_, rfl, hd⟩
abbrev sRmul : Stmt := inClass (top 16) 6
theorem scRmul : FnScope ["self", "other"] ["self", "other"] (defScope sRmul) := ⟨rfl, rfl, rfl, by decide +kernel, rfl, by decide +kernel, by decide +kernel⟩
theorem ok_rmul (F : Dm K C "__rmul__" "Ratio.__rmul__" sRmul ["self", "other"] f fd) (RB : RatB P w K mg base C) (MMul : MOk P w K mg base CX0 C "__mul__" 3 (spF K (pre2 C) (postMul C))) : FnOk P w K mg base CX0 4 f fd ["self", "other"] (spF K (preI2 C) (postMul C)) := by
  obtain ⟨B, tR, MI⟩ := RB
  have MRmul : MOk P w K mg base CX0 C "__rmul__" 0 (fun _ _ _ _ => False) := F.ok ⟨fun _ _ _ _ h => h.elim, fun _ _ _ _ _ _ _ _ _ _ _ _ _ h => h.elim⟩
  refine ok_F F.fn scRmul (fun ds h => by obtain ⟨_, _, _, e, _⟩ := h; rw [e]; rfl) fun cdv Ar outer sh Hp0 xE Fr ds hr hm ⟨n, d, i, e, ok, n2⟩ => ?_
  have nd := scRmul.nd
  subst e
  show W _ _ _ _ _ [some (.d (rat C n d)), some (.d (.int i))]
  refine W.cons ?_
  refine W1.ret ?_
  refine E.bin ?_
  refine E.var 0 rfl ?_
  refine E.var 1 rfl ?_
  exact O2.dI tR.sf dn_mul dr_mul MMul MRmul (hr.mono (by decide)) tR.iM tR.iRM tR.subI (.inr ⟨_, _, _, rfl, ok, n2⟩) fun d hd => ⟨_, rfl, hd⟩
abbrev sRsub : Stmt := inClass (top 16) 4
theorem scRsub : FnScope ["self", "other"] ["self", "other"] (defScope sRsub) := ⟨rfl, rfl, rfl, by decide +kernel, rfl, by decide +kernel, by decide +kernel⟩
theorem ok_rsub {sp2 : Sp} {k2 : Nat} (F : Dm K C "__rsub__" "Ratio.__rsub__" sRsub ["self", "other"] f fd) (RB : RatB P w K mg base C) (MAdd : MOk P w K mg base CX0 C "__add__" 3 (spF K (pre2 C) (postAdd C))) (MNeg : MOk P w K mg base CX0 C "__neg__" 3 (spF K (pre1 C) (postNeg C))) (MRadd : MOk P w K mg base CX0 C "__radd__" k2 sp2) :
    FnOk P w K mg base CX0 4 f fd ["self", "other"] (spF K (preI2 C) (postRsub C)) := by
  obtain ⟨B, tR, MI⟩ := RB
  refine ok_F F.fn scRsub (fun ds h => by obtain ⟨_, _, _, e, _⟩ := h; rw [e]; rfl) fun cdv Ar outer sh Hp0 xE Fr ds hr hm ⟨n, d, i, e, ⟨hd, n1, d1⟩, n2⟩ => ?_
  have nd := scRsub.nd
  subst e
  show W _ _ _ _ _ [some (.d (rat C n d)), some (.d (.int i))]
  refine W.cons ?_
  refine W1.ret ?_
  refine E.bin ?_
  refine E.un ?_
  refine E.var 0 rfl ?_
  refine O1.dN MNeg (hr.mono (by decide)) ⟨_, _, rfl, hd, n1, d1⟩ ?_
  rintro r ⟨p, q, rfl, hn⟩
  have hn : Nrm (-n) d p q := hn
  have hl := hn.le (by omega)
  refine E.var 1 rfl ?_
  refine O2.dI tR.sf dn_add dr_add MAdd MRadd (hr.mono (by decide)) tR.iA tR.iRA tR.subI (.inr ⟨_, _, _, rfl, ⟨hn.1, (Bd.neg n1).le hl.1, d1.le hl.2⟩, n2⟩) ?_
  rintro r ⟨s, t, rfl, hm⟩
  have hm : Nrm (p * 1 + i * q) (q * 1) s t := hm
  refine ⟨_, rfl, s, t, rfl, ?_⟩
  show Nrm (i * d - n) d s t
  rw [Int.mul_one, Int.mul_one] at hm
  have := hn.1
  refine hm.conv (by omega) ?_
  have h2 := hn.2.1
  rw [Int.add_mul, h2, Int.sub_mul, Int.neg_mul, Int.mul_right_comm i q d]
  omega
abbrev sEq : Stmt := inClass (top 16) 9
theorem scEq : FnScope ["self", "other"] ["self", "other"] (defScope sEq) := ⟨rfl, rfl, rfl, by decide +kernel, rfl, by decide +kernel, by decide +kernel⟩
theorem ok_eq (F : Dm K C "__eq__" "Ratio.__eq__" sEq ["self", "other"] f fd) (B : Bl mg) (tR : RatT K mg C) : FnOk P w K mg base CX0 1 f fd ["self", "other"] (spF K (pre2 C) postEq) := by
  refine ok_F F.fn scEq (fun ds h => by rcases h with ⟨_, _, _, _, e, _⟩ | ⟨_, _, _, e, _⟩ <;> rw [e] <;> rfl) fun cdv Ar outer sh Hp0 xE Fr ds hr hm hp => ?_
  have nd := scEq.nd
  have q1 := tR.isc
  have q2 := tR.kRR
  have q3 := tR.kIR
  have q4 := tR.kII
  rcases hp with ⟨n, d, a, b, e, ⟨hd, n1, d1⟩, ⟨hb, n2, d2⟩⟩ | ⟨n, d, i, e, ⟨hd, n1, d1⟩, n2⟩
  · subst e
    show W _ _ _ _ _ [some (.d (rat C n d)), some (.d (rat C a b))]
    refine W.cons ?_
    refine W1.ret ?_
    refine E.and ?_
    refine E.callB B.isinstance bt_isinstance ?_
    refine A.cons ?_
    refine E.var 1 rfl ?_
    refine A.cons ?_
    refine E.globR tR.mgR ?_
    refine A.nil ?_
    walk_at "cl"
    refine ⟨_, rfl, ?_⟩
    refine iteT ?_
    refine E.and ?_
    refine E.cmp ?_
    refine E.fld ?_
    refine E.var 0 rfl ?_
    refine ⟨_, _, _, _, rfl, tR.cls, tR.nt, rfl, ?_⟩
    refine E.fld ?_
    refine E.var 1 rfl ?_
    refine ⟨_, _, _, _, rfl, tR.cls, tR.nt, rfl, ?_⟩
    walk_at "o"
    refine ⟨_, rfl, ?_⟩
    refine ifd (fun h1 => ?_) (fun h1 => ?_)
    · skip
      refine E.one ?_
      refine E.cmp ?_
      refine E.fld ?_
      refine E.var 0 rfl ?_
      refine ⟨_, _, _, _, rfl, tR.cls, tR.nb, rfl, ?_⟩
      refine E.fld ?_
      refine E.var 1 rfl ?_
      refine ⟨_, _, _, _, rfl, tR.cls, tR.nb, rfl, ?_⟩
      walk_at "o"
      exact ⟨_, rfl, by show D.bl _ = D.bl (true && (decide (n = a) && decide (d = b))); rw [decide_eq_true h1]; rfl⟩
    · exact ⟨_, rfl, by show D.bl _ = D.bl (true && (decide (n = a) && decide (d = b))); rw [decide_eq_false h1]; rfl⟩
  · subst e
    show W _ _ _ _ _ [some (.d (rat C n d)), some (.d (.int i))]
    refine W.cons ?_
    refine W1.ret ?_
    refine E.and ?_
    refine E.callB B.isinstance bt_isinstance ?_
    refine A.cons ?_
    refine E.var 1 rfl ?_
    refine A.cons ?_
    refine E.globR tR.mgR ?_
    refine A.nil ?_
    walk_at "cl"
    refine ⟨_, rfl, ?_⟩
    exact iteF ⟨_, rfl, rfl⟩
abbrev sBool : Stmt := inClass (top 16) 10
theorem scBool : FnScope ["self"] ["self"] (defScope sBool) := ⟨rfl, rfl, rfl, by decide +kernel, rfl, by decide +kernel, by decide +kernel⟩
theorem ok_bool (F : Dm K C "__bool__" "Ratio.__bool__" sBool ["self"] f fd) (B : Bl mg) (tR : RatT K mg C) : FnOk P w K mg base CX0 1 f fd ["self"] (spF K (pre1 C) postBool) := by
  refine ok_F F.fn scBool (fun ds h => by obtain ⟨_, _, e, _⟩ := h; rw [e]; rfl) fun cdv Ar outer sh Hp0 xE Fr ds hr hm ⟨n, d, e, ok⟩ => ?_
  have nd := scBool.nd
  subst e
  show W _ _ _ _ _ [some (.d (rat C n d))]
  refine W.cons ?_
  refine W1.ret ?_
  refine E.callTy B.bool bt_bool ?_
  refine A.cons ?_
  refine E.fld ?_
  refine E.var 0 rfl ?_
  refine ⟨_, _, _, _, rfl, tR.cls, tR.nt, rfl, ?_⟩
  refine A.nil ?_
  walk_at "cl"
  exact ⟨_, rfl, rfl⟩
abbrev sSign : Stmt := inClass (top 16) 13
theorem scSign : FnScope ["self"] ["self"] (defScope sSign) := ⟨rfl, rfl, rfl, by decide +kernel, rfl, by decide +kernel, by decide +kernel⟩
theorem ok_sign (F : Dm K C "sign" "Ratio.sign" sSign ["self"] f fd) (B : Bl mg) (tR : RatT K mg C) : FnOk P w K mg base CX0 1 f fd ["self"] (spF K (pre1 C) postSign) := by
  refine ok_F F.fn scSign (fun ds h => by obtain ⟨_, _, e, _⟩ := h; rw [e]; rfl) fun cdv Ar outer sh Hp0 xE Fr ds hr hm ⟨n, d, e, ok⟩ => ?_
  have nd := scSign.nd
  subst e
  show W _ _ _ _ _ [some (.d (rat C n d))]
  have fin : ∀ z : Int, z = sgn n → ∃ x, R.d (D.int z) = R.d x ∧ postSign [rat C n d] x := fun z e => ⟨_, rfl, by rw [e]; rfl⟩
  refine W.cons ?_
  refine W1.iff ?_
  refine T.cmp ?_
  refine E.fld ?_
  refine E.var 0 rfl ?_
  refine ⟨_, _, _, _, rfl, tR.cls, tR.nt, rfl, ?_⟩
  refine E.int ?_
  walk_at "o"
  refine ⟨_, rfl, ?_⟩
  refine ifd (fun h => ?_) (fun h => ?_)
  · skip
    refine W.cons ?_
    refine W1.ret ?_
    refine E.un ?_
    refine E.int ?_
    walk_at "u"
    exact fin _ (by unfold sgn; rw [if_pos h])
  refine W.nil ?_
  refine W.cons ?_
  refine W1.iff ?_
  refine T.cmp ?_
  refine E.fld ?_
  refine E.var 0 rfl ?_
  refine ⟨_, _, _, _, rfl, tR.cls, tR.nt, rfl, ?_⟩
  refine E.int ?_
  walk_at "o"
  refine ⟨_, rfl, ?_⟩
  refine ifd (fun h2 => ?_) (fun h2 => ?_)
  · skip
    refine W.cons ?_
    refine W1.ret ?_
    refine E.int ?_
    exact fin _ (by unfold sgn; rw [if_neg h, if_pos h2])
  refine W.nil ?_
  refine W.cons ?_
  refine W1.ret ?_
  refine E.int ?_
  exact fin _ (by unfold sgn; rw [if_neg h, if_neg h2])

abbrev sCompare : Stmt := top 17
theorem scCompare : FnScope ["first", "second"] ["first", "second"] (defScope sCompare) := ⟨rfl, rfl, rfl, by decide +kernel, rfl, by decide +kernel, by decide +kernel⟩
theorem ok_compare (F : Df K mg "compare" sCompare ["first", "second"] f fd) (RB : RatB P w K mg base C) (MSub : MOk P w K mg base CX0 C "__sub__" 3 (spF K (pre2 C) (postSub C))) (MSign : MOk P w K mg base CX0 C "sign" 1 (spF K (pre1 C) postSign)) :
    FnOk P w K mg base CX0 4 f fd ["first", "second"] (spF K (preH C) fun ds r => ∃ p q, Nrm (nu (a0 ds) * de (a1 ds) - nu (a1 ds) * de (a0 ds)) (de (a0 ds) * de (a1 ds)) p q ∧ r = .int (sgn p)) := by
  obtain ⟨B, tR, MI⟩ := RB
  refine ok_F F.fn scCompare (fun ds h => by obtain ⟨_, _, _, _, e, _⟩ := h; rw [e]; rfl) fun cdv Ar outer sh Hp0 xE Fr ds hr hm ⟨n, d, a, b, e, ok1, ok2, h1, h2⟩ => ?_
  have nd := scCompare.nd
  subst e
  show W _ _ _ _ _ [some (.d (rat C n d)), some (.d (rat C a b))]
  refine W.cons ?_
  refine W1.ret ?_
  refine E.dmeth0 tR.cls MSign (hr.mono (by decide)) ?_
  refine E.bin ?_
  refine E.var 0 rfl ?_
  refine E.var 1 rfl ?_
  refine O2.dB tR.sf dn_sub MSub (hr.mono (by decide)) (.inl ⟨_, _, _, _, rfl, ok1, ok2⟩) ?_
  rintro r ⟨p, q, rfl, hn⟩
  have hn : Nrm (n * b - a * d) (d * b) p q := hn
  obtain ⟨hd, n1, d1⟩ := ok1
  obtain ⟨hb, n2, d2⟩ := ok2
  have hl := hn.le (Int.mul_ne_zero (by omega) (by omega))
  refine ⟨_, _, rfl, rfl, ⟨_, _, rfl, hn.1, ?_, ?_⟩, ?_⟩
  · exact ((Bd.sub (Bd.mul h1.2.1 h2.2.2) (Bd.mul h2.2.1 h1.2.2)).le hl.1).mono (by decide)
  · exact ((Bd.mul h1.2.2 h2.2.2).le hl.2).mono (by decide)
  · rintro r rfl
    exact ⟨_, rfl, p, q, hn, rfl⟩
end

theorem fdiv_abs {a b : Int} (hb : b ≠ 0) : (a.fdiv b).natAbs ≤ a.natAbs := by
  by_cases h : 0 ≤ b
  · rw [Int.fdiv_eq_ediv_of_nonneg _ h]; exact Int.natAbs_ediv_le_natAbs a b
  · rw [← Int.neg_fdiv_neg, Int.fdiv_eq_ediv_of_nonneg _ (by omega)]
    have := Int.natAbs_ediv_le_natAbs (-a) (-b)
    rwa [Int.natAbs_neg] at this
theorem bits_lt {x : Int} : x.natAbs < 2 ^ (Builtin.Int.intBits x) := by
  unfold Builtin.Int.intBits
  by_cases h : x = 0
  · subst h; decide
  · have : (x == 0) = false := by simpa using h
    rw [this]
    exact Nat.lt_log2_self
theorem bits_le {x : Int} {k : Nat} (h : Bd k x) : Builtin.Int.intBits x ≤ k := by
  unfold Builtin.Int.intBits
  by_cases z : x = 0
  · subst z; exact Nat.zero_le _
  · have : (x == 0) = false := by simpa using z
    rw [this]
    exact (Nat.log2_lt (by omega)).mpr h
theorem Bd.lit {k : Nat} {x : Int} (h : x.natAbs < 2 ^ k := by decide) : Bd k x := h
theorem Bd.max1 {k : Nat} {x : Int} (h : Bd (k + 1) x) : Bd (k + 1) (if 1 < x then x else 1) := by
  split
  · exact h
  · show (1 : Int).natAbs < 2 ^ (k + 1)
    exact Nat.one_lt_two_pow (by omega)
theorem max1_ne {x : Int} : (if (1 : Int) < x then x else 1) ≠ 0 := by split <;> omega
theorem Bd.mod {k : Nat} {x m : Int} (h0 : 0 < m) (hm : Bd k m) : Bd k (x % m) := by
  have h1 := Int.emod_nonneg x (show m ≠ 0 by omega)
  have h2 := Int.emod_lt_of_pos x h0
  exact hm.le (by omega)
theorem Bd.of_lt {k : Nat} {x m : Int} (h0 : 0 ≤ x) (h : x < m) (hm : Bd k m) : Bd k x := hm.le (by omega)

theorem nrm_pos_ne {t b p q : Int} (h : Nrm t b p q) : q ≠ 0 := by have := h.1; omega
theorem okn {k j : Nat} {t b p q : Int} (h : Nrm t b p q) (hb : b ≠ 0) (h1 : Bd k t) (h2 : Bd j b) (hk : k ≤ 4000 := by decide) (hj : j ≤ 4000 := by decide) : Ok p q := ⟨h.1, (h1.le (h.le hb).1).mono hk, (h2.le (h.le hb).2).mono hj⟩
def sde (a b : Int) : Int := if a = 0 then 0 else if (decide (0 < a) == decide (0 < b)) = true then 1 else -1
theorem sgn_sde {a b n d : Int} (h : Nrm a b n d) (hb : b ≠ 0) : sgn n = sde a b := by
  have hd := h.1
  have e := h.2.1
  unfold sgn sde
  by_cases ha : a = 0
  · subst ha
    rw [Int.zero_mul] at e
    have : n = 0 := (Int.mul_eq_zero.mp e).resolve_right hb
    subst this
    rfl
  · rw [if_neg ha]
    have s := congrArg Int.sign e
    rw [Int.sign_mul, Int.sign_mul, Int.sign_eq_one_of_pos hd, Int.mul_one] at s
    rcases Int.lt_or_gt_of_ne hb with hb | hb <;> rcases Int.lt_or_gt_of_ne ha with ha | ha
    · rw [Int.sign_eq_neg_one_of_neg hb, Int.sign_eq_neg_one_of_neg ha] at s
      have s : n.sign = 1 := by omega
      have hn := Int.sign_eq_one_iff_pos.mp s
      rw [if_neg (by omega), if_pos hn, decide_eq_false (by omega), decide_eq_false (by omega)]; rfl
    · rw [Int.sign_eq_neg_one_of_neg hb, Int.sign_eq_one_of_pos ha] at s
      have s : n.sign = -1 := by omega
      have hn := Int.sign_eq_neg_one_iff_neg.mp s
      rw [if_pos hn, decide_eq_true ha, decide_eq_false (by omega)]; rfl
    · rw [Int.sign_eq_one_of_pos hb, Int.sign_eq_neg_one_of_neg ha] at s
      have s : n.sign = -1 := by omega
      have hn := Int.sign_eq_neg_one_iff_neg.mp s
      rw [if_pos hn, decide_eq_false (by omega), decide_eq_true hb]; rfl
    · rw [Int.sign_eq_one_of_pos hb, Int.sign_eq_one_of_pos ha] at s
      have s : n.sign = 1 := by omega
      have hn := Int.sign_eq_one_iff_pos.mp s
      rw [if_neg (by omega), if_pos hn, decide_eq_true ha, decide_eq_true hb]; rfl
theorem sde_neg {a b : Int} : sde (-a) b = -sde a b := by
  unfold sde
  by_cases ha : a = 0
  · subst ha; rfl
  · rw [if_neg ha, if_neg (by omega)]
    by_cases h : 0 < a
    · rw [decide_eq_true h, decide_eq_false (by omega : ¬ 0 < -a)]
      cases decide (0 < b) <;> rfl
    · rw [decide_eq_false h, decide_eq_true (by omega : 0 < -a)]
      cases decide (0 < b) <;> rfl
/-- equal fractions have equal lowest terms -/
theorem nrm_eq {a b c e n d m k : Int} (h1 : Nrm a b n d) (h2 : Nrm c e m k) (hb : b ≠ 0) (he : e ≠ 0) : (n = m ∧ d = k) ↔ a * e = c * b := by
  obtain ⟨hd, e1, g1⟩ := h1
  obtain ⟨hk, e2, g2⟩ := h2
  constructor
  · rintro ⟨rfl, rfl⟩
    refine Int.eq_of_mul_eq_mul_right (show d ≠ 0 by omega) ?_
    grind
  · intro h
    have hx : n * k = m * d := by
      refine Int.eq_of_mul_eq_mul_right (Int.mul_ne_zero hb he) ?_
      grind
    have hN : n.natAbs * k.natAbs = m.natAbs * d.natAbs := by rw [← Int.natAbs_mul, ← Int.natAbs_mul, hx]
    have d1 : d.natAbs ∣ k.natAbs := Nat.Coprime.dvd_of_dvd_mul_left (m := n.natAbs) (by rw [Nat.Coprime, Nat.gcd_comm]; exact g1) ⟨m.natAbs, by rw [hN, Nat.mul_comm]⟩
    have d2 : k.natAbs ∣ d.natAbs := Nat.Coprime.dvd_of_dvd_mul_left (m := m.natAbs) (by rw [Nat.Coprime, Nat.gcd_comm]; exact g2) ⟨n.natAbs, by rw [← hN, Nat.mul_comm]⟩
    have e0 := Nat.dvd_antisymm d1 d2
    have ek : d = k := by omega
    subst ek
    exact ⟨Int.eq_of_mul_eq_mul_right (show d ≠ 0 by omega) hx, rfl⟩
theorem nrm_zero {a b n d : Int} (h : Nrm a b n d) (hb : b ≠ 0) : n = 0 ↔ a = 0 := by
  obtain ⟨hd, e, _⟩ := h
  constructor
  · rintro rfl
    rw [Int.zero_mul] at e
    exact (Int.mul_eq_zero.mp e.symm).resolve_right (by omega)
  · rintro rfl
    rw [Int.zero_mul] at e
    exact (Int.mul_eq_zero.mp e).resolve_right hb

/-! ### intervals: what is known, what the defs compute -/
def bey (x y : D) : Bool := !isNon x && (!isNon y && decide (nu y * de x < nu x * de y))
def OkK (k : Nat) (n d : Int) : Prop := 0 < d ∧ Bd k n ∧ Bd k d
theorem OkK.h {n d : Int} (h : OkK 1900 n d) : OkH n d := h
theorem OkK.ok {k : Nat} {n d : Int} (h : OkK k n d) (hk : k ≤ 4000 := by decide) : Ok n d := ⟨h.1, h.2.1.mono hk, h.2.2.mono hk⟩
theorem OkK.mono {k j : Nat} {n d : Int} (h : OkK k n d) (hk : k ≤ j := by decide) : OkK j n d := ⟨h.1, h.2.1.mono hk, h.2.2.mono hk⟩
/-- an end: None, or a ratio -/
inductive EndD (C : Addr) (k : Nat) : D → Prop where
  | non : EndD C k .non
  | rat {n d : Int} (h : OkK k n d) : EndD C k (rat C n d)
theorem EndD.mono {C : Addr} {k j : Nat} {x : D} (h : EndD C k x) (hk : k ≤ j := by decide) : EndD C j x := by
  cases h with
  | non => exact .non
  | rat h => exact .rat (h.mono hk)
theorem sgn_of {t b p q : Int} (h : Nrm t b p q) (hb : 0 < b) : sgn p = sgn t := by
  rw [sgn_sde h (by omega)]
  have : Nrm t b (t.fdiv ((Nat.gcd t.natAbs b.natAbs : Nat) : Int)) (b.fdiv ((Nat.gcd t.natAbs b.natAbs : Nat) : Int)) := nrm_pos hb
  unfold sde sgn
  by_cases h0 : t = 0
  · subst h0; rfl
  · rw [if_neg h0]
    by_cases h1 : t < 0
    · rw [if_pos h1, decide_eq_false (by omega : ¬ 0 < t), decide_eq_true hb]; rfl
    · rw [if_neg h1, if_pos (by omega : 0 < t), decide_eq_true (by omega : 0 < t), decide_eq_true hb]; rfl
theorem sgn_gt {x y p q b : Int} (h : Nrm (x - y) b p q) (hb : 0 < b) : decide (0 < sgn p) = decide (y < x) := by
  rw [sgn_of h hb]
  unfold sgn
  by_cases h1 : x - y < 0
  · rw [if_pos h1, decide_eq_false (by omega : ¬ y < x)]; rfl
  · rw [if_neg h1]
    by_cases h2 : 0 < x - y
    · rw [if_pos h2, decide_eq_true (by omega : y < x)]; rfl
    · rw [if_neg h2, decide_eq_false (by omega : ¬ y < x)]; rfl
theorem sgn_lt {x y p q b : Int} (h : Nrm (x - y) b p q) (hb : 0 < b) : decide (sgn p < 0) = decide (x < y) := by
  rw [sgn_of h hb]
  unfold sgn
  by_cases h1 : x - y < 0
  · rw [if_pos h1, decide_eq_true (by omega : x < y)]; rfl
  · rw [if_neg h1]
    by_cases h2 : 0 < x - y
    · rw [if_pos h2, decide_eq_false (by omega : ¬ x < y)]; rfl
    · rw [if_neg h2, decide_eq_false (by omega : ¬ x < y)]; rfl
def preEE (C : Addr) : List D → Prop := fun ds => ∃ x y, ds = [x, y] ∧ EndD C 1900 x ∧ EndD C 1900 y
def postBey : List D → D → Prop := fun ds r => r = .bl (bey (a0 ds) (a1 ds))
def larL (x y : D) : D := if isNon x = true then y else if (isNon y || decide (nu y * de x < nu x * de y)) = true then x else y
def smaH (x y : D) : D := if isNon x = true then y else if (isNon y || decide (nu x * de y < nu y * de x)) = true then x else y
theorem larL_rr {C : Addr} {n d m k : Int} : larL (rat C n d) (rat C m k) = if m * d < n * k then rat C n d else rat C m k := by
  show (if false = true then _ else if (false || decide (m * d < n * k)) = true then _ else _) = _
  simp
theorem smaH_rr {C : Addr} {n d m k : Int} : smaH (rat C n d) (rat C m k) = if n * k < m * d then rat C n d else rat C m k := by
  show (if false = true then _ else if (false || decide (n * k < m * d)) = true then _ else _) = _
  simp
def postLar : List D → D → Prop := fun ds r => r = larL (a0 ds) (a1 ds)
def postSma : List D → D → Prop := fun ds r => r = smaH (a0 ds) (a1 ds)
/-- the sum of two ends; an end times a number -/
def SumP (C : Addr) (x y r : D) : Prop := ((isNon x || isNon y) = true ∧ r = .non) ∨ (isNon x = false ∧ isNon y = false ∧ isR C (nu x * de y + nu y * de x) (de x * de y) r)
def MulP (C : Addr) (x f r : D) : Prop := (isNon x = true ∧ r = .non) ∨ (isNon x = false ∧ isR C (nu x * nu f) (de x * de f) r)
def postSum (C : Addr) : List D → D → Prop := fun ds => SumP C (a0 ds) (a1 ds)
def postMulE (C : Addr) : List D → D → Prop := fun ds => MulP C (a0 ds) (a1 ds)
def preSum (C : Addr) : List D → Prop := fun ds => ∃ x y, ds = [x, y] ∧ EndD C 1900 x ∧ EndD C 1900 y
def preMulE (C : Addr) : List D → Prop := fun ds => ∃ x n d, ds = [x, rat C n d] ∧ EndD C 1900 x ∧ OkK 1900 n d
/-- the interval that was told -/
abbrev ivl (CI : Addr) (x y : D) : D := .ins CI ["low", "high"] [x, y]
structure IvT (K : PySem.W.Frag) (mg : Str → Option Value) (C CI : Addr) : Prop where
  mgI : mg "Interval" = some (.ref CI)
  cls : Cls K CI
  nl : NoAttr K CI "low"
  nh : NoAttr K CI "high"
  isc : IsC K CI
  sf : PySem.W.selfFirst K CI = true
  ne : C ≠ CI
  kII : PySem.W.kitOne K (.ref CI) (.ref CI) = some true
  kIN : PySem.W.kitOne K (.type "NoneType") (.ref CI) = some false
  kRI : PySem.W.kitOne K (.ref CI) (.ref C) = some false
  kIi : PySem.W.kitOne K (.ref CI) (.type "int") = some false
  kNR : PySem.W.kitOne K (.type "NoneType") (.ref C) = some false
  aR : PySem.W.kitAny K (.ref C) [.ref C, .type "int"] = some true
  aI : PySem.W.kitAny K (.type "int") [.ref C, .type "int"] = some true
  kNi : PySem.W.kitOne K (.type "NoneType") (.type "int") = some false
  kRi : PySem.W.kitOne K (.ref C) (.type "int") = some false
  kBB : PySem.W.kitOne K (.type "bool") (.type "bool") = some true
  sIC : PySem.W.subIn K (.ref CI) (.ref C) = some false
  sCI : PySem.W.subIn K (.ref C) (.ref CI) = some false
  sIi : PySem.W.subIn K (.ref CI) (.type "int") = some false
  sii : PySem.W.subIn K (.type "int") (.ref CI) = some false
  nfR : PySem.W.notFirst K CI (.ref C) = true
  nfI : PySem.W.notFirst K CI (.ref CI) = true
  nfRN : PySem.W.notFirst K C (.type "NoneType") = true
  sRN : PySem.W.subIn K (.ref C) (.type "NoneType") = some false

section
variable {P : Program} {w : World} {K : PySem.W.Frag} {mg : Str → Option Value} {base : Heap} {C CI : Addr} {f : Addr} {fd : FuncData}
def postCp : List D → D → Prop := fun ds r => ∃ p q, Nrm (nu (a0 ds) * de (a1 ds) - nu (a1 ds) * de (a0 ds)) (de (a0 ds) * de (a1 ds)) p q ∧ r = .int (sgn p)
abbrev KCompare (P : Program) (w : World) (K : PySem.W.Frag) (mg : Str → Option Value) (base : Heap) (C : Addr) : Prop := DOk P w K mg base CX0 "compare" 4 (spF K (preH C) postCp)
theorem preh {n d m k : Int} (h1 : OkH n d) (h2 : OkH m k) : preH C [rat C n d, rat C m k] := ⟨_, _, _, _, rfl, h1.ok, h2.ok, h1, h2⟩
abbrev sBey : Stmt := top 21
theorem scBey : FnScope ["low", "high"] ["low", "high"] (defScope sBey) := ⟨rfl, rfl, rfl, by decide +kernel, rfl, by decide +kernel, by decide +kernel⟩
theorem ok_bey (F : Df K mg "is_beyond" sBey ["low", "high"] f fd) (GCompare : KCompare P w K mg base C) : FnOk P w K mg base CX0 5 f fd ["low", "high"] (spF K (preEE C) postBey) := by
  refine ok_F F.fn scBey (fun ds ⟨_, _, e, _⟩ => by rw [e]; rfl) fun cdv Ar outer sh Hp0 xE Fr ds hr hm ⟨x, y, e, hx, hy⟩ => ?_
  have nd := scBey.nd
  subst e
  show W _ _ _ _ _ [some (.d x), some (.d y)]
  cases hx with
  | non =>
    refine W.cons ?_
    refine W1.ret ?_
    refine E.and ?_
    refine E.cmp ?_
    refine E.var 0 rfl ?_
    refine E.non ?_
    walk_at "o"
    refine ⟨_, rfl, ?_⟩
    exact iteF ⟨_, rfl, rfl⟩
  | rat hx =>
    cases hy with
    | non =>
      refine W.cons ?_
      refine W1.ret ?_
      refine E.and ?_
      refine E.cmp ?_
      refine E.var 0 rfl ?_
      refine E.non ?_
      walk_at "o"
      refine ⟨_, rfl, ?_⟩
      refine iteT ?_
      refine E.and ?_
      refine E.cmp ?_
      refine E.var 1 rfl ?_
      refine E.non ?_
      walk_at "o"
      refine ⟨_, rfl, ?_⟩
      exact iteF ⟨_, rfl, rfl⟩
    | rat hy =>
      refine W.cons ?_
      refine W1.ret ?_
      refine E.and ?_
      refine E.cmp ?_
      refine E.var 0 rfl ?_
      refine E.non ?_
      walk_at "o"
      refine ⟨_, rfl, ?_⟩
      refine iteT ?_
      refine E.and ?_
      refine E.cmp ?_
      refine E.var 1 rfl ?_
      refine E.non ?_
      walk_at "o"
      refine ⟨_, rfl, ?_⟩
      refine iteT ?_
      refine E.one ?_
      refine E.cmp ?_
      refine E.dcall GCompare (hr.mono (by decide)) ?_
      refine A.cons ?_
      refine E.var 0 rfl ?_
      refine A.cons ?_
      refine E.var 1 rfl ?_
      refine A.nil ?_
      refine ⟨[_, _], rfl, preh hx.h hy.h, ?_⟩
      rintro _ ⟨p, q, hp, rfl⟩
      refine E.int ?_
      walk_at "o"
      exact ⟨_, rfl, by show D.bl _ = D.bl (true && (true && decide _)); rw [sgn_gt hp (Int.mul_pos hx.1 hy.1)]; rfl⟩
abbrev sLar : Stmt := top 19
theorem scLar : FnScope ["first", "second"] ["first", "second"] (defScope sLar) := ⟨rfl, rfl, rfl, by decide +kernel, rfl, by decide +kernel, by decide +kernel⟩
theorem ok_lar (F : Df K mg "larger_low" sLar ["first", "second"] f fd) (GCompare : KCompare P w K mg base C) : FnOk P w K mg base CX0 5 f fd ["first", "second"] (spF K (preEE C) postLar) := by
  refine ok_F F.fn scLar (fun ds ⟨_, _, e, _⟩ => by rw [e]; rfl) fun cdv Ar outer sh Hp0 xE Fr ds hr hm ⟨x, y, e, hx, hy⟩ => ?_
  have nd := scLar.nd
  subst e
  show W _ _ _ _ _ [some (.d x), some (.d y)]
  cases hx with
  | non =>
    refine W.cons ?_
    refine W1.iff ?_
    refine T.cmp ?_
    refine E.var 0 rfl ?_
    refine E.non ?_
    walk_at "o"
    refine ⟨_, rfl, ?_⟩
    refine iteT ?_
    refine W.cons ?_
    refine W1.ret ?_
    refine E.var 1 rfl ?_
    exact ⟨_, rfl, rfl⟩
  | rat hx =>
    refine W.cons ?_
    refine W1.iff ?_
    refine T.cmp ?_
    refine E.var 0 rfl ?_
    refine E.non ?_
    walk_at "o"
    refine ⟨_, rfl, ?_⟩
    refine iteF (W.nil ?_)
    cases hy with
    | non =>
      refine W.cons ?_
      refine W1.iff ?_
      refine Tw.t ?_
      refine Tw.or ?_
      refine T.cmp ?_
      refine E.var 1 rfl ?_
      refine E.non ?_
      walk_at "o"
      refine ⟨_, rfl, ?_⟩
      refine iteT (iteT ?_)
      refine W.cons ?_
      refine W1.ret ?_
      refine E.var 0 rfl ?_
      exact ⟨_, rfl, rfl⟩
    | @rat m k hy =>
      refine W.cons ?_
      refine W1.iff ?_
      refine Tw.t ?_
      refine Tw.or ?_
      refine T.cmp ?_
      refine E.var 1 rfl ?_
      refine E.non ?_
      walk_at "o"
      refine ⟨_, rfl, ?_⟩
      refine iteF ?_
      refine Tw.or1 ?_
      refine T.cmp ?_
      refine E.dcall GCompare (hr.mono (by decide)) ?_
      refine A.cons ?_
      refine E.var 0 rfl ?_
      refine A.cons ?_
      refine E.var 1 rfl ?_
      refine A.nil ?_
      refine ⟨[_, _], rfl, preh hx.h hy.h, ?_⟩
      rintro _ ⟨p, q, hp, rfl⟩
      refine E.int ?_
      walk_at "o"
      refine ⟨_, rfl, ?_⟩
      have e := sgn_gt hp (Int.mul_pos hx.1 hy.1)
      rw [e]
      refine ifd (fun h => ?_) (fun h => W.nil ?_)
      · skip
        refine W.cons ?_
        refine W1.ret ?_
        refine E.var 0 rfl ?_
        exact ⟨_, rfl, (larL_rr.trans (if_pos h)).symm⟩
      · skip
        refine W.cons ?_
        refine W1.ret ?_
        refine E.var 1 rfl ?_
        exact ⟨_, rfl, (larL_rr.trans (if_neg h)).symm⟩
abbrev sSma : Stmt := top 20
theorem scSma : FnScope ["first", "second"] ["first", "second"] (defScope sSma) := ⟨rfl, rfl, rfl, by decide +kernel, rfl, by decide +kernel, by decide +kernel⟩
theorem ok_sma (F : Df K mg "smaller_high" sSma ["first", "second"] f fd) (GCompare : KCompare P w K mg base C) : FnOk P w K mg base CX0 5 f fd ["first", "second"] (spF K (preEE C) postSma) := by
  refine ok_F F.fn scSma (fun ds ⟨_, _, e, _⟩ => by rw [e]; rfl) fun cdv Ar outer sh Hp0 xE Fr ds hr hm ⟨x, y, e, hx, hy⟩ => ?_
  have nd := scSma.nd
  subst e
  show W _ _ _ _ _ [some (.d x), some (.d y)]
  cases hx with
  | non =>
    refine W.cons ?_
    refine W1.iff ?_
    refine T.cmp ?_
    refine E.var 0 rfl ?_
    refine E.non ?_
    walk_at "o"
    refine ⟨_, rfl, ?_⟩
    refine iteT ?_
    refine W.cons ?_
    refine W1.ret ?_
    refine E.var 1 rfl ?_
    exact ⟨_, rfl, rfl⟩
  | rat hx =>
    refine W.cons ?_
    refine W1.iff ?_
    refine T.cmp ?_
    refine E.var 0 rfl ?_
    refine E.non ?_
    walk_at "o"
    refine ⟨_, rfl, ?_⟩
    refine iteF (W.nil ?_)
    cases hy with
    | non =>
      refine W.cons ?_
      refine W1.iff ?_
      refine Tw.t ?_
      refine Tw.or ?_
      refine T.cmp ?_
      refine E.var 1 rfl ?_
      refine E.non ?_
      walk_at "o"
      refine ⟨_, rfl, ?_⟩
      refine iteT (iteT ?_)
      refine W.cons ?_
      refine W1.ret ?_
      refine E.var 0 rfl ?_
      exact ⟨_, rfl, rfl⟩
    | @rat m k hy =>
      refine W.cons ?_
      refine W1.iff ?_
      refine Tw.t ?_
      refine Tw.or ?_
      refine T.cmp ?_
      refine E.var 1 rfl ?_
      refine E.non ?_
      walk_at "o"
      refine ⟨_, rfl, ?_⟩
      refine iteF ?_
      refine Tw.or1 ?_
      refine T.cmp ?_
      refine E.dcall GCompare (hr.mono (by decide)) ?_
      refine A.cons ?_
      refine E.var 0 rfl ?_
      refine A.cons ?_
      refine E.var 1 rfl ?_
      refine A.nil ?_
      refine ⟨[_, _], rfl, preh hx.h hy.h, ?_⟩
      rintro _ ⟨p, q, hp, rfl⟩
      refine E.int ?_
      walk_at "o"
      refine ⟨_, rfl, ?_⟩
      have e := sgn_lt hp (Int.mul_pos hx.1 hy.1)
      rw [e]
      refine ifd (fun h => ?_) (fun h => W.nil ?_)
      · skip
        refine W.cons ?_
        refine W1.ret ?_
        refine E.var 0 rfl ?_
        exact ⟨_, rfl, (smaH_rr.trans (if_pos h)).symm⟩
      · skip
        refine W.cons ?_
        refine W1.ret ?_
        refine E.var 1 rfl ?_
        exact ⟨_, rfl, (smaH_rr.trans (if_neg h)).symm⟩
abbrev sSoe : Stmt := top 22
theorem scSoe : FnScope ["first", "second"] ["first", "second"] (defScope sSoe) := ⟨rfl, rfl, rfl, by decide +kernel, rfl, by decide +kernel, by decide +kernel⟩
theorem ok_soe (F : Df K mg "sum_of_ends" sSoe ["first", "second"] f fd) (tR : RatT K mg C) (MAdd : MOk P w K mg base CX0 C "__add__" 3 (spF K (pre2 C) (postAdd C))) : FnOk P w K mg base CX0 5 f fd ["first", "second"] (spF K (preSum C) (postSum C)) := by
  refine ok_F F.fn scSoe (fun ds ⟨_, _, e, _⟩ => by rw [e]; rfl) fun cdv Ar outer sh Hp0 xE Fr ds hr hm ⟨x, y, e, hx, hy⟩ => ?_
  have nd := scSoe.nd
  subst e
  show W _ _ _ _ _ [some (.d x), some (.d y)]
  cases hx with
  | non =>
    refine W.cons ?_
    refine W1.iff ?_
    refine Tw.t ?_
    refine Tw.or ?_
    refine T.cmp ?_
    refine E.var 0 rfl ?_
    refine E.non ?_
    walk_at "o"
    refine ⟨_, rfl, ?_⟩
    refine iteT (iteT ?_)
    refine W.cons ?_
    refine W1.ret ?_
    refine E.non ?_
    exact ⟨_, rfl, .inl ⟨rfl, rfl⟩⟩
  | rat hx =>
    cases hy with
    | non =>
      refine W.cons ?_
      refine W1.iff ?_
      refine Tw.t ?_
      refine Tw.or ?_
      refine T.cmp ?_
      refine E.var 0 rfl ?_
      refine E.non ?_
      walk_at "o"
      refine ⟨_, rfl, ?_⟩
      refine iteF ?_
      refine Tw.or1 ?_
      refine T.cmp ?_
      refine E.var 1 rfl ?_
      refine E.non ?_
      walk_at "o"
      refine ⟨_, rfl, ?_⟩
      refine iteT ?_
      refine W.cons ?_
      refine W1.ret ?_
      refine E.non ?_
      exact ⟨_, rfl, .inl ⟨rfl, rfl⟩⟩
    | rat hy =>
      refine W.cons ?_
      refine W1.iff ?_
      refine Tw.t ?_
      refine Tw.or ?_
      refine T.cmp ?_
      refine E.var 0 rfl ?_
      refine E.non ?_
      walk_at "o"
      refine ⟨_, rfl, ?_⟩
      refine iteF ?_
      refine Tw.or1 ?_
      refine T.cmp ?_
      refine E.var 1 rfl ?_
      refine E.non ?_
      walk_at "o"
      refine ⟨_, rfl, ?_⟩
      refine iteF (W.nil ?_)
      refine W.cons ?_
      refine W1.ret ?_
      refine E.bin ?_
      refine E.var 0 rfl ?_
      refine E.var 1 rfl ?_
      refine O2.dB tR.sf dn_add MAdd (hr.mono (by decide)) (.inl ⟨_, _, _, _, rfl, hx.ok, hy.ok⟩) ?_
      rintro r h
      exact ⟨_, rfl, .inr ⟨rfl, rfl, h⟩⟩
abbrev sMoe : Stmt := top 23
theorem scMoe : FnScope ["end", "factor"] ["end", "factor"] (defScope sMoe) := ⟨rfl, rfl, rfl, by decide +kernel, rfl, by decide +kernel, by decide +kernel⟩
theorem ok_moe (F : Df K mg "multiple_of_end" sMoe ["end", "factor"] f fd) (tR : RatT K mg C) (MMul : MOk P w K mg base CX0 C "__mul__" 3 (spF K (pre2 C) (postMul C))) : FnOk P w K mg base CX0 5 f fd ["end", "factor"] (spF K (preMulE C) (postMulE C)) := by
  refine ok_F F.fn scMoe (fun ds ⟨_, _, _, e, _⟩ => by rw [e]; rfl) fun cdv Ar outer sh Hp0 xE Fr ds hr hm ⟨x, n, d, e, hx, hy⟩ => ?_
  have nd := scMoe.nd
  subst e
  show W _ _ _ _ _ [some (.d x), some (.d (rat C n d))]
  cases hx with
  | non =>
    refine W.cons ?_
    refine W1.iff ?_
    refine T.cmp ?_
    refine E.var 0 rfl ?_
    refine E.non ?_
    walk_at "o"
    refine ⟨_, rfl, ?_⟩
    refine iteT ?_
    refine W.cons ?_
    refine W1.ret ?_
    refine E.non ?_
    exact ⟨_, rfl, .inl ⟨rfl, rfl⟩⟩
  | rat hx =>
    refine W.cons ?_
    refine W1.iff ?_
    refine T.cmp ?_
    refine E.var 0 rfl ?_
    refine E.non ?_
    walk_at "o"
    refine ⟨_, rfl, ?_⟩
    refine iteF (W.nil ?_)
    refine W.cons ?_
    refine W1.ret ?_
    refine E.bin ?_
    refine E.var 0 rfl ?_
    refine E.var 1 rfl ?_
    refine O2.dB tR.sf dn_mul MMul (hr.mono (by decide)) (.inl ⟨_, _, _, _, rfl, hx.ok, hy.ok⟩) ?_
    rintro r h
    exact ⟨_, rfl, .inr ⟨rfl, h⟩⟩
end

theorem two2 {k : Bool} {A B : Prop} (h1 : k = true → A) (h2 : k = false → B) : if k = true then A else B := by
  cases k with
  | true => exact iteT (h1 rfl)
  | false => exact iteF (h2 rfl)
theorem two2n {k : Bool} {A B : Prop} (h1 : k = false → A) (h2 : k = true → B) : if (!k) = true then A else B := by
  cases k with
  | true => exact iteF (h2 rfl)
  | false => exact iteT (h1 rfl)
/-- comparing by values -/
theorem cmp_conv {a b c e p q s t : Int} (h1 : Nrm a b p q) (h2 : Nrm c e s t) (hb : 0 < b) (he : 0 < e) : s * q < p * t ↔ c * b < a * e := by
  have hq := h1.1
  have ht := h2.1
  have e1 := h1.2.1
  have e2 := h2.2.1
  have x1 : s * q * (b * e) = c * b * (t * q) := by grind
  have x2 : p * t * (b * e) = a * e * (t * q) := by grind
  rw [← Int.mul_lt_mul_right (Int.mul_pos hb he), x1, x2, Int.mul_lt_mul_right (Int.mul_pos ht hq)]
theorem nrm_self {n d : Int} (h : 0 < d) (g : Nat.gcd n.natAbs d.natAbs = 1) : Nrm n d n d := ⟨h, rfl, g⟩
theorem bey_rr {C : Addr} {n d m k : Int} : bey (rat C n d) (rat C m k) = decide (m * d < n * k) := by
  show (true && (true && decide _)) = _
  rfl
theorem bey_nl {y : D} : bey .non y = false := rfl
theorem bey_nr {x : D} : bey x .non = false := by
  show (!isNon x && (false && _)) = false
  cases isNon x <;> rfl
theorem SumP.endD {C : Addr} {k : Nat} {x y r : D} (h : SumP C x y r) (hx : EndD C k x) (hy : EndD C k y) (hk : k + k + 1 ≤ 1900 := by decide) : EndD C 1900 r := by
  rcases h with ⟨_, rfl⟩ | ⟨_, _, p, q, rfl, hn⟩
  · exact .non
  · cases hx with
    | non => contradiction
    | rat hx => cases hy with
      | non => contradiction
      | rat hy =>
        have hn : Nrm (_ * _ + _ * _) (_ * _) p q := hn
        have hp := Int.mul_pos hx.1 hy.1
        have hl := hn.le (Int.ne_of_gt hp)
        refine .rat ⟨hn.1, ?_, ?_⟩
        · exact (((hx.2.1.mul hy.2.2).add (hy.2.1.mul hx.2.2)).le hl.1).mono (by rw [Nat.max_self]; exact hk)
        · exact ((hx.2.2.mul hy.2.2).le hl.2).mono (by omega)
theorem SumP.bey {C : Addr} {k j : Nat} {x y x' y' r s : D} (h1 : SumP C x x' r) (h2 : SumP C y y' s) (hx : EndD C k x) (hy : EndD C k y) (hx' : EndD C j x') (hy' : EndD C j y') (b1 : Toy.bey x y = false) (b2 : Toy.bey x' y' = false) : Toy.bey r s = false := by
  rcases h1 with ⟨_, rfl⟩ | ⟨n1, n2, p, q, rfl, hn⟩
  · rfl
  rcases h2 with ⟨_, rfl⟩ | ⟨n3, n4, u, v, rfl, hm⟩
  · exact bey_nr
  cases hx with
  | non => contradiction
  | @rat a b hx => cases hy with
    | non => contradiction
    | @rat c e hy => cases hx' with
      | non => contradiction
      | @rat a' b' hx' => cases hy' with
        | non => contradiction
        | @rat c' e' hy' =>
          rw [bey_rr] at b1 b2 ⊢
          have hn : Nrm (a * b' + a' * b) (b * b') p q := hn
          have hm : Nrm (c * e' + c' * e) (e * e') u v := hm
          have b1 := of_decide_eq_false b1
          have b2 := of_decide_eq_false b2
          refine decide_eq_false ?_
          rw [cmp_conv hn hm (Int.mul_pos hx.1 hx'.1) (Int.mul_pos hy.1 hy'.1)]
          have g1 : a * e * (b' * e') ≤ c * b * (b' * e') := Int.mul_le_mul_of_nonneg_right (by omega) (Int.le_of_lt (Int.mul_pos hx'.1 hy'.1))
          have g2 : a' * e' * (b * e) ≤ c' * b' * (b * e) := Int.mul_le_mul_of_nonneg_right (by omega) (Int.le_of_lt (Int.mul_pos hx.1 hy.1))
          have e1 : (a * b' + a' * b) * (e * e') = a * e * (b' * e') + a' * e' * (b * e) := by grind
          have e2 : (c * e' + c' * e) * (b * b') = c * b * (b' * e') + c' * b' * (b * e) := by grind
          omega
theorem MulP.endD {C : Addr} {k j : Nat} {x r : D} {n d : Int} (h : MulP C x (rat C n d) r) (hx : EndD C k x) (hf : OkK j n d) (hk : k + j ≤ 1900 := by decide) : EndD C 1900 r := by
  rcases h with ⟨_, rfl⟩ | ⟨_, p, q, rfl, hn⟩
  · exact .non
  · cases hx with
    | non => contradiction
    | rat hx =>
        have hn : Nrm (_ * n) (_ * d) p q := hn
        have hp := Int.mul_pos hx.1 hf.1
        have hl := hn.le (Int.ne_of_gt hp)
        exact .rat ⟨hn.1, ((hx.2.1.mul hf.2.1).le hl.1).mono hk, ((hx.2.2.mul hf.2.2).le hl.2).mono hk⟩
theorem MulP.bey {C : Addr} {k : Nat} {x y r s : D} {n d : Int} (h1 : MulP C x (rat C n d) r) (h2 : MulP C y (rat C n d) s) (hx : EndD C k x) (hy : EndD C k y) (hd : 0 < d) (hn0 : 0 ≤ n) (b1 : Toy.bey x y = false) : Toy.bey r s = false := by
  rcases h1 with ⟨_, rfl⟩ | ⟨n1, p, q, rfl, hn⟩
  · rfl
  rcases h2 with ⟨_, rfl⟩ | ⟨n3, u, v, rfl, hm⟩
  · exact bey_nr
  cases hx with
  | non => contradiction
  | @rat a b hx => cases hy with
    | non => contradiction
    | @rat c e hy =>
      rw [bey_rr] at b1 ⊢
      have hn : Nrm (a * n) (b * d) p q := hn
      have hm : Nrm (c * n) (e * d) u v := hm
      have b1 := of_decide_eq_false b1
      refine decide_eq_false ?_
      rw [cmp_conv hn hm (Int.mul_pos hx.1 hd) (Int.mul_pos hy.1 hd)]
      have g1 : a * e * (n * d) ≤ c * b * (n * d) := Int.mul_le_mul_of_nonneg_right (by omega) (Int.mul_nonneg hn0 (by omega))
      have e1 : a * n * (e * d) = a * e * (n * d) := by grind
      have e2 : c * n * (b * d) = c * b * (n * d) := by grind
      omega
theorem MulP.beyN {C : Addr} {k : Nat} {x y r s : D} {n d : Int} (h1 : MulP C x (rat C n d) r) (h2 : MulP C y (rat C n d) s) (hx : EndD C k x) (hy : EndD C k y) (hd : 0 < d) (hn0 : n ≤ 0) (b1 : Toy.bey x y = false) : Toy.bey s r = false := by
  rcases h1 with ⟨_, rfl⟩ | ⟨n1, p, q, rfl, hn⟩
  · exact bey_nr
  rcases h2 with ⟨_, rfl⟩ | ⟨n3, u, v, rfl, hm⟩
  · rfl
  cases hx with
  | non => contradiction
  | @rat a b hx => cases hy with
    | non => contradiction
    | @rat c e hy =>
      rw [bey_rr] at b1 ⊢
      have hn : Nrm (a * n) (b * d) p q := hn
      have hm : Nrm (c * n) (e * d) u v := hm
      have b1 := of_decide_eq_false b1
      refine decide_eq_false ?_
      rw [cmp_conv hm hn (Int.mul_pos hy.1 hd) (Int.mul_pos hx.1 hd)]
      have g1 : a * e * (-n * d) ≤ c * b * (-n * d) := Int.mul_le_mul_of_nonneg_right (by omega) (Int.mul_nonneg (by omega) (by omega))
      have e1 : a * n * (e * d) = -(a * e * (-n * d)) := by grind
      have e2 : c * n * (b * d) = -(c * b * (-n * d)) := by grind
      omega
theorem MulP.conv {C : Addr} {k : Nat} {x r f : D} {p q : Int} (h : MulP C x (rat C p q) r) (hx : EndD C k x) (hn : Nrm (nu f) (de f) p q) : MulP C x f r := by
  rcases h with h | ⟨n1, s, t, rfl, hm⟩
  · exact .inl h
  · refine .inr ⟨n1, s, t, rfl, ?_⟩
    cases hx with
    | non => contradiction
    | rat hx =>
      have hm : Nrm (_ * p) (_ * q) s t := hm
      have hd := hx.1
      refine hm.conv (Int.mul_ne_zero (Int.ne_of_gt hd) (nrm_pos_ne hn)) ?_
      have := hn.2.1
      show _ * p * (_ * de f) = _ * nu f * (_ * q)
      grind
def eqE (x y : D) : Bool := if isNon x = true then isNon y else (!isNon y && (decide (nu x = nu y) && decide (de x = de y)))
def AddIP (C CI : Addr) (x y x' y' r : D) : Prop := ∃ z z', r = ivl CI z z' ∧ SumP C x x' z ∧ SumP C y y' z'
def MulIP (C CI : Addr) (x y f r : D) : Prop := (nu f = 0 ∧ ∃ z z', r = ivl CI z z' ∧ isR C 0 1 z ∧ isR C 0 1 z') ∨ (0 < nu f ∧ ∃ z z', r = ivl CI z z' ∧ MulP C x f z ∧ MulP C y f z') ∨ (nu f < 0 ∧ ∃ z z', r = ivl CI z z' ∧ MulP C y f z ∧ MulP C x f z')
def lo : D → D
  | .ins _ _ (x :: _) => x
  | _ => .non
def hi : D → D
  | .ins _ _ (_ :: y :: _) => y
  | _ => .non
/-- an interval as it may stand -/
inductive IvD (C CI : Addr) (k : Nat) : D → Prop where
  | mk {x y : D} (hx : EndD C k x) (hy : EndD C k y) (hb : bey x y = false) : IvD C CI k (ivl CI x y)
theorem IvD.mono {C CI : Addr} {k j : Nat} {x : D} (h : IvD C CI k x) (hk : k ≤ j := by decide) : IvD C CI j x := by
  cases h with
  | mk hx hy hb => exact .mk (hx.mono hk) (hy.mono hk) hb
def preV (C : Addr) : List D → Prop := fun ds => ∃ x y, ds = [x, y] ∧ EndD C 1900 x ∧ EndD C 1900 y ∧ bey x y = false
def postV : List D → List D → Prop := fun ds fs => fs = [a0 ds, a1 ds]
def postVX : List D → List D → Prop := fun ds fs => postV ds fs ∧ bey (a0 ds) (a1 ds) = false
def excV (Z : Addr) : List D → Value → Prop := fun ds c => bey (a0 ds) (a1 ds) = true ∧ c = .ref Z
/-- the error for ends in the wrong order -/
structure EmT (K : PySem.W.Frag) (mg : Str → Option Value) (Z : Addr) : Prop where
  mgZ : mg "EmptyInterval" = some (.ref Z)
  kZ : PySem.W.keepIn K (.ref Z) = true
  ex : PySem.W.excIn K Z [.type "ValueError", .type "Exception", .type "BaseException", .type "object"] "ValueError.__new__" = true
  r1 : PySem.W.subIn K (.ref Z) (.type "BaseException") = some true
  r2 : PySem.W.typeIn K (.ref Z) = some (.type "type")

section
variable {P : Program} {w : World} {K : PySem.W.Frag} {mg : Str → Option Value} {base : Heap} {C CI : Addr} {f : Addr} {fd : FuncData}
abbrev KBey (P : Program) (w : World) (K : PySem.W.Frag) (mg : Str → Option Value) (base : Heap) (C : Addr) : Prop := DOk P w K mg base CX0 "is_beyond" 5 (spF K (preEE C) postBey)
abbrev sIInit : Stmt := inClass (top 25) 0
theorem scIInit : FnScope ["self", "low", "high"] ["self", "low", "high"] (defScope sIInit) := ⟨rfl, rfl, rfl, by decide +kernel, rfl, by decide +kernel, by decide +kernel⟩
theorem ok_iinit (F : Fun K "__init__" "Interval.__init__" sIInit f fd) (tI : IvT K mg C CI) (GBey : KBey P w K mg base C) : FnOk P w K mg base CX0 6 f fd ["self", "low", "high"] (spI K CI ["low", "high"] (preV C) postV) := by
  refine ok_I (.inl F) scIInit (fun ds ⟨_, _, e, _⟩ => by rw [e]; rfl) fun cdv Ar outer sh Hp0 xE Fr ds hr ⟨x, y, e, hx, hy, hb⟩ => ?_
  have nd := scIInit.nd
  subst e
  show W _ _ _ _ _ [some (.c 0), some (.d x), some (.d y)]
  refine W.cons ?_
  refine W1.iff ?_
  refine T.truth ?_
  refine E.dcall GBey (hr.mono (by decide)) ?_
  refine A.cons ?_
  refine E.var 1 rfl ?_
  refine A.cons ?_
  refine E.var 2 rfl ?_
  refine A.nil ?_
  refine ⟨[_, _], rfl, ⟨_, _, rfl, hx, hy⟩, ?_⟩
  rintro _ rfl
  walk_at "tr"
  show if bey x y = true then _ else _
  rw [hb]
  refine iteF (W.nil ?_)
  refine W.cons ?_
  refine W1.fldN ?_
  refine E.var 1 rfl ?_
  refine E.var 0 rfl ?_
  refine ⟨_, _, _, _, rfl, rfl, tI.cls, tI.nl, by decide, by decide, ?_⟩
  refine W.cons ?_
  refine W1.fldN ?_
  refine E.var 2 rfl ?_
  refine E.var 0 rfl ?_
  refine ⟨_, _, _, _, rfl, rfl, tI.cls, tI.nh, by decide, by simp, ?_⟩
  exact W.nil ⟨[x, y], rfl, rfl⟩
theorem ok_iinitX {Z : Addr} (F : Fun K "__init__" "Interval.__init__" sIInit f fd) (tI : IvT K mg C CI) (tE : EmT K mg Z) (GBey : KBey P w K mg base C) : FnOk P w K mg base (L2.CX P w) 6 f fd ["self", "low", "high"] (spIX K CI ["low", "high"] (preEE C) postVX (excV Z)) := by
  refine ok_IX (.inl F) scIInit (fun ds ⟨_, _, e, _⟩ => by rw [e]; rfl) fun cdv Ar outer sh Hp0 xE Fr ds hr ⟨x, y, e, hx, hy⟩ tk => ?_
  have nd := scIInit.nd
  subst e
  show W _ _ _ _ _ [some (.c 0), some (.d x), some (.d y)]
  refine W.cons ?_
  refine W1.iff ?_
  refine T.truth ?_
  refine E.dcall GBey (hr.mono (by decide)) ?_
  refine A.cons ?_
  refine E.var 1 rfl ?_
  refine A.cons ?_
  refine E.var 2 rfl ?_
  refine A.nil ?_
  refine ⟨[_, _], rfl, ⟨_, _, rfl, hx, hy⟩, ?_⟩
  rintro _ rfl
  walk_at "tr"
  refine two2 (fun hb => ?_) (fun hb => W.nil ?_)
  · exact W.cons (W1.raise rfl tk PySem.F.excBase_ValueError tE.ex tE.mgZ tE.kZ (raises_own tE.r1 tE.r2) ⟨hb, rfl⟩)
  refine W.cons ?_
  refine W1.fldN ?_
  refine E.var 1 rfl ?_
  refine E.var 0 rfl ?_
  refine ⟨_, _, _, _, rfl, rfl, tI.cls, tI.nl, by decide, by decide, ?_⟩
  refine W.cons ?_
  refine W1.fldN ?_
  refine E.var 2 rfl ?_
  refine E.var 0 rfl ?_
  refine ⟨_, _, _, _, rfl, rfl, tI.cls, tI.nh, by decide, by simp, ?_⟩
  exact W.nil ⟨[x, y], rfl, rfl, hb⟩
abbrev sICon : Stmt := inClass (top 25) 1
theorem scICon : FnScope ["self", "number"] ["self", "number"] (defScope sICon) := ⟨rfl, rfl, rfl, by decide +kernel, rfl, by decide +kernel, by decide +kernel⟩
def preC1 (C CI : Addr) : List D → Prop := fun ds => ∃ i n d, ds = [i, rat C n d] ∧ IvD C CI 1900 i ∧ OkK 1900 n d
def postIn : List D → D → Prop := fun ds r => r = .bl (!bey (lo (a0 ds)) (a1 ds) && !bey (a1 ds) (hi (a0 ds)))
theorem ok_icon (F : Dm K CI "__contains__" "Interval.__contains__" sICon ["self", "number"] f fd) (tI : IvT K mg C CI) (GBey : KBey P w K mg base C) : FnOk P w K mg base CX0 6 f fd ["self", "number"] (spF K (preC1 C CI) postIn) := by
  refine ok_F F.fn scICon (fun ds ⟨_, _, _, e, _⟩ => by rw [e]; rfl) fun cdv Ar outer sh Hp0 xE Fr ds hr hm ⟨i, n, d, e, hi, hn⟩ => ?_
  have nd := scICon.nd
  subst e
  cases hi with
  | @mk x y hx hy hb =>
    show W _ _ _ _ _ [some (.d (ivl CI x y)), some (.d (rat C n d))]
    refine W.cons ?_
    refine W1.ret ?_
    refine E.and ?_
    refine E.not ?_
    refine E.dcall GBey (hr.mono (by decide)) ?_
    refine A.cons ?_
    refine E.fld ?_
    refine E.var 0 rfl ?_
    refine ⟨_, _, _, _, rfl, tI.cls, tI.nl, rfl, ?_⟩
    refine A.cons ?_
    refine E.var 1 rfl ?_
    refine A.nil ?_
    refine ⟨[_, _], rfl, ⟨_, _, rfl, hx, .rat hn⟩, ?_⟩
    rintro _ rfl
    refine ⟨_, rfl, ?_⟩
    refine ⟨_, rfl, ?_⟩
    refine two2n (fun h1 => ?_) (fun h1 => ?_)
    · skip
      refine E.one ?_
      refine E.not ?_
      refine E.dcall GBey (hr.mono (by decide)) ?_
      refine A.cons ?_
      refine E.var 1 rfl ?_
      refine A.cons ?_
      refine E.fld ?_
      refine E.var 0 rfl ?_
      refine ⟨_, _, _, _, rfl, tI.cls, tI.nh, rfl, ?_⟩
      refine A.nil ?_
      refine ⟨[_, _], rfl, ⟨_, _, rfl, .rat hn, hy⟩, ?_⟩
      rintro _ rfl
      refine ⟨_, rfl, ?_⟩
      exact ⟨_, rfl, by show D.bl (!bey (rat C n d) y) = D.bl (!bey x (rat C n d) && !bey (rat C n d) y); rw [show bey x (rat C n d) = false from h1]; rfl⟩
    · exact ⟨_, rfl, by show D.bl false = D.bl (!bey x (rat C n d) && !bey (rat C n d) y); rw [show bey x (rat C n d) = true from h1]; rfl⟩
end

section
variable {P : Program} {w : World} {K : PySem.W.Frag} {mg : Str → Option Value} {base : Heap} {C CI : Addr} {f : Addr} {fd : FuncData}
/-- a ratio with a ratio or None -/
def preRN (C : Addr) : List D → Prop := fun ds => preR2 C ds ∨ ∃ n d, ds = [rat C n d, .non] ∧ Ok n d
abbrev sREq : Stmt := inClass (top 16) 9
theorem scREq : FnScope ["self", "other"] ["self", "other"] (defScope sREq) := ⟨rfl, rfl, rfl, by decide +kernel, rfl, by decide +kernel, by decide +kernel⟩
theorem ok_eqN (F : Dm K C "__eq__" "Ratio.__eq__" sREq ["self", "other"] f fd) (B : Bl mg) (tR : RatT K mg C) (tI : IvT K mg C CI) : FnOk P w K mg base CX0 1 f fd ["self", "other"] (spF K (preRN C) postEq) := by
  refine ok_F F.fn scREq (fun ds h => by rcases h with ⟨_, _, _, _, e, _⟩ | ⟨_, _, e, _⟩ <;> rw [e] <;> rfl) fun cdv Ar outer sh Hp0 xE Fr ds hr hm hp => ?_
  have nd := scREq.nd
  have q1 := tR.isc
  have q2 := tR.kRR
  have q3 := tI.kNR
  rcases hp with ⟨n, d, a, b, e, ⟨hd, n1, d1⟩, ⟨hb, n2, d2⟩⟩ | ⟨n, d, e, ⟨hd, n1, d1⟩⟩
  · subst e
    show W _ _ _ _ _ [some (.d (rat C n d)), some (.d (rat C a b))]
    refine W.cons ?_
    refine W1.ret ?_
    refine E.and ?_
    refine E.callB B.isinstance bt_isinstance ?_
    refine A.cons ?_
    refine E.var 1 rfl ?_
    refine A.cons ?_
    refine E.globR tR.mgR ?_
    refine A.nil ?_
    walk_at "cl"
    refine ⟨_, rfl, ?_⟩
    refine iteT ?_
    refine E.and ?_
    refine E.cmp ?_
    refine E.fld ?_
    refine E.var 0 rfl ?_
    refine ⟨_, _, _, _, rfl, tR.cls, tR.nt, rfl, ?_⟩
    refine E.fld ?_
    refine E.var 1 rfl ?_
    refine ⟨_, _, _, _, rfl, tR.cls, tR.nt, rfl, ?_⟩
    walk_at "o"
    refine ⟨_, rfl, ?_⟩
    refine ifd (fun h1 => ?_) (fun h1 => ?_)
    · skip
      refine E.one ?_
      refine E.cmp ?_
      refine E.fld ?_
      refine E.var 0 rfl ?_
      refine ⟨_, _, _, _, rfl, tR.cls, tR.nb, rfl, ?_⟩
      refine E.fld ?_
      refine E.var 1 rfl ?_
      refine ⟨_, _, _, _, rfl, tR.cls, tR.nb, rfl, ?_⟩
      walk_at "o"
      exact ⟨_, rfl, by show D.bl _ = D.bl (true && (decide (n = a) && decide (d = b))); rw [decide_eq_true h1]; rfl⟩
    · exact ⟨_, rfl, by show D.bl _ = D.bl (true && (decide (n = a) && decide (d = b))); rw [decide_eq_false h1]; rfl⟩
  · subst e
    show W _ _ _ _ _ [some (.d (rat C n d)), some (.d .non)]
    refine W.cons ?_
    refine W1.ret ?_
    refine E.and ?_
    refine E.callB B.isinstance bt_isinstance ?_
    refine A.cons ?_
    refine E.var 1 rfl ?_
    refine A.cons ?_
    refine E.globR tR.mgR ?_
    refine A.nil ?_
    refine Cl.isi TyD.non (fun _ _ => clsv_ref) q3 ?_
    refine ⟨_, rfl, ?_⟩
    exact iteF ⟨_, rfl, rfl⟩
abbrev KEqN (P : Program) (w : World) (K : PySem.W.Frag) (mg : Str → Option Value) (base : Heap) (C : Addr) : Prop := MOk P w K mg base CX0 C "__eq__" 1 (spF K (preRN C) postEq)
theorem O2.endEq {X : Cx} {F : Fm} {own : List Cell} {Q : QE} {k j : Nat} {x y : D} (tR : RatT X.K X.mg C) (tI : IvT X.K X.mg C CI) (M : KEqN X.prog X.w X.K X.mg X.base C) (hr : Room 1 X.A) (hx : EndD C k x) (hy : EndD C j y) (h : Q own (.d (.bl (eqE x y)))) (hk : k ≤ 4000 := by decide) (hj : j ≤ 4000 := by decide) : O2 X F (.cmp .Eq) (.d x) (.d y) Q own := by
  cases hx with
  | non => cases hy with
    | non => exact O2.eqNN h
    | rat hy => exact O2.dNEq M hr tI.sRN (.inr ⟨_, _, rfl, hy.ok hj⟩) fun d hd => by rw [show d = _ from hd]; exact h
  | rat hx => cases hy with
    | non => exact O2.dEqN M hr tI.nfRN (.inr ⟨_, _, rfl, hx.ok hk⟩) fun d hd => by rw [show d = _ from hd]; exact h
    | rat hy => exact O2.dEq M hr tR.nfR (.inl ⟨_, _, _, _, rfl, hx.ok hk, hy.ok hj⟩) fun d hd => by rw [show d = _ from hd]; exact h
abbrev sIEq : Stmt := inClass (top 25) 2
theorem scIEq : FnScope ["self", "other"] ["self", "other"] (defScope sIEq) := ⟨rfl, rfl, rfl, by decide +kernel, rfl, by decide +kernel, by decide +kernel⟩
def preII (C CI : Addr) (k : Nat) : List D → Prop := fun ds => ∃ i j, ds = [i, j] ∧ IvD C CI k i ∧ IvD C CI k j
def postIEq : List D → D → Prop := fun ds r => r = .bl (eqE (lo (a0 ds)) (lo (a1 ds)) && eqE (hi (a0 ds)) (hi (a1 ds)))
theorem ok_ieq (F : Dm K CI "__eq__" "Interval.__eq__" sIEq ["self", "other"] f fd) (B : Bl mg) (tR : RatT K mg C) (tI : IvT K mg C CI) (MEqN : KEqN P w K mg base C) : FnOk P w K mg base CX0 2 f fd ["self", "other"] (spF K (preII C CI 1900) postIEq) := by
  refine ok_F F.fn scIEq (fun ds ⟨_, _, e, _⟩ => by rw [e]; rfl) fun cdv Ar outer sh Hp0 xE Fr ds hr hm ⟨i, j, e, hi, hj⟩ => ?_
  have nd := scIEq.nd
  have q1 := tI.isc
  have q2 := tI.kII
  subst e
  cases hi with
  | @mk x y hx hy hb => cases hj with
    | @mk x' y' hx' hy' hb' =>
      show W _ _ _ _ _ [some (.d (ivl CI x y)), some (.d (ivl CI x' y'))]
      refine W.cons ?_
      refine W1.ret ?_
      refine E.and ?_
      refine E.callB B.isinstance bt_isinstance ?_
      refine A.cons ?_
      refine E.var 1 rfl ?_
      refine A.cons ?_
      refine E.globR tI.mgI ?_
      refine A.nil ?_
      walk_at "cl"
      refine ⟨_, rfl, ?_⟩
      refine iteT ?_
      refine E.and ?_
      refine E.cmp ?_
      refine E.fld ?_
      refine E.var 0 rfl ?_
      refine ⟨_, _, _, _, rfl, tI.cls, tI.nl, rfl, ?_⟩
      refine E.fld ?_
      refine E.var 1 rfl ?_
      refine ⟨_, _, _, _, rfl, tI.cls, tI.nl, rfl, ?_⟩
      refine O2.endEq tR tI MEqN (hr.mono (by decide)) hx hx' ?_
      refine ⟨_, rfl, ?_⟩
      refine two2 (fun h1 => ?_) (fun h1 => ?_)
      · skip
        refine E.one ?_
        refine E.cmp ?_
        refine E.fld ?_
        refine E.var 0 rfl ?_
        refine ⟨_, _, _, _, rfl, tI.cls, tI.nh, rfl, ?_⟩
        refine E.fld ?_
        refine E.var 1 rfl ?_
        refine ⟨_, _, _, _, rfl, tI.cls, tI.nh, rfl, ?_⟩
        refine O2.endEq tR tI MEqN (hr.mono (by decide)) hy hy' ?_
        exact ⟨_, rfl, by show D.bl (eqE y y') = D.bl (eqE x x' && eqE y y'); rw [h1]; rfl⟩
      · exact ⟨_, rfl, by show D.bl false = D.bl (eqE x x' && eqE y y'); rw [h1]; rfl⟩
/-- what the methods lean on -/
structure IvB (P : Program) (w : World) (K : PySem.W.Frag) (mg : Str → Option Value) (base : Heap) (C CI : Addr) : Prop where
  B : Bl mg
  tR : RatT K mg C
  tI : IvT K mg C CI
  MI : IOk P w K mg base CX0 C 1 [] (spI K C ["top", "bottom"] preI postI)
  MI1 : IOk P w K mg base CX0 C 1 [.int 1] (spI K C ["top", "bottom"] preI postI)
  MAdd : MOk P w K mg base CX0 C "__add__" 3 (spF K (pre2 C) (postAdd C))
  MSub : MOk P w K mg base CX0 C "__sub__" 3 (spF K (pre2 C) (postSub C))
  MMul : MOk P w K mg base CX0 C "__mul__" 3 (spF K (pre2 C) (postMul C))
  MRmul : MOk P w K mg base CX0 C "__rmul__" 4 (spF K (preI2 C) (postMul C))
  MSign : MOk P w K mg base CX0 C "sign" 1 (spF K (pre1 C) postSign)
  MBool : MOk P w K mg base CX0 C "__bool__" 1 (spF K (pre1 C) postBool)
  MEqN : KEqN P w K mg base C
  GBey : KBey P w K mg base C
  GLar : DOk P w K mg base CX0 "larger_low" 5 (spF K (preEE C) postLar)
  GSma : DOk P w K mg base CX0 "smaller_high" 5 (spF K (preEE C) postSma)
  GSum : DOk P w K mg base CX0 "sum_of_ends" 5 (spF K (preSum C) (postSum C))
  GMul : DOk P w K mg base CX0 "multiple_of_end" 5 (spF K (preMulE C) (postMulE C))
  MV : IOk P w K mg base CX0 CI 6 [] (spI K CI ["low", "high"] (preV C) postV)
abbrev sIAdd : Stmt := inClass (top 25) 4
theorem scIAdd : FnScope ["self", "other"] ["self", "other"] (defScope sIAdd) := ⟨rfl, rfl, rfl, by decide +kernel, rfl, by decide +kernel, by decide +kernel⟩
def postIAdd (C CI : Addr) : List D → D → Prop := fun ds => AddIP C CI (lo (a0 ds)) (hi (a0 ds)) (lo (a1 ds)) (hi (a1 ds))
theorem ok_iadd (F : Dm K CI "__add__" "Interval.__add__" sIAdd ["self", "other"] f fd) (IB : IvB P w K mg base C CI) : FnOk P w K mg base CX0 8 f fd ["self", "other"] (spF K (preII C CI 900) (postIAdd C CI)) := by
  obtain ⟨B, tR, tI, MI, MI1, MAdd, MSub, MMul, MRmul, MSign, MBool, MEqN, GBey, GLar, GSma, GSum, GMul, MV⟩ := IB
  refine ok_F F.fn scIAdd (fun ds ⟨_, _, e, _⟩ => by rw [e]; rfl) fun cdv Ar outer sh Hp0 xE Fr ds hr hm ⟨i, j, e, hi, hj⟩ => ?_
  have nd := scIAdd.nd
  have q1 := tI.isc
  have q2 := tI.kII
  subst e
  cases hi with
  | @mk x y hx hy hb => cases hj with
    | @mk x' y' hx' hy' hb' =>
      show W _ _ _ _ _ [some (.d (ivl CI x y)), some (.d (ivl CI x' y'))]
      refine W.cons ?_
      refine W1.iff ?_
      refine T.not ?_
      refine T.truth ?_
      refine E.callB B.isinstance bt_isinstance ?_
      refine A.cons ?_
      refine E.var 1 rfl ?_
      refine A.cons ?_
      refine E.globR tI.mgI ?_
      refine A.nil ?_
      walk_at "cl"
      walk_at "tr"
      refine iteF (W.nil ?_)
      refine W.cons ?_
      refine W1.ret ?_
      refine E.dmake MV tI.mgI (hr.mono (by decide)) ?_
      refine A.cons ?_
      refine E.dcall GSum (hr.mono (by decide)) ?_
      refine A.cons ?_
      refine E.fld ?_
      refine E.var 0 rfl ?_
      refine ⟨_, _, _, _, rfl, tI.cls, tI.nl, rfl, ?_⟩
      refine A.cons ?_
      refine E.fld ?_
      refine E.var 1 rfl ?_
      refine ⟨_, _, _, _, rfl, tI.cls, tI.nl, rfl, ?_⟩
      refine A.nil ?_
      refine ⟨[_, _], rfl, ⟨_, _, rfl, hx.mono, hx'.mono⟩, ?_⟩
      rintro r h1
      refine A.cons ?_
      refine E.dcall GSum (hr.mono (by decide)) ?_
      refine A.cons ?_
      refine E.fld ?_
      refine E.var 0 rfl ?_
      refine ⟨_, _, _, _, rfl, tI.cls, tI.nh, rfl, ?_⟩
      refine A.cons ?_
      refine E.fld ?_
      refine E.var 1 rfl ?_
      refine ⟨_, _, _, _, rfl, tI.cls, tI.nh, rfl, ?_⟩
      refine A.nil ?_
      refine ⟨[_, _], rfl, ⟨_, _, rfl, hy.mono, hy'.mono⟩, ?_⟩
      rintro s h2
      refine A.nil ?_
      refine ⟨[_, _], rfl, ⟨_, _, rfl, SumP.endD h1 hx hx', SumP.endD h2 hy hy', SumP.bey h1 h2 hx hy hx' hy' hb hb'⟩, ?_⟩
      rintro fs rfl
      exact ⟨_, rfl, _, _, rfl, h1, h2⟩
abbrev sIMul : Stmt := inClass (top 25) 5
theorem scIMul : FnScope ["self", "factor", "number", "ends"] ["self", "factor"] (defScope sIMul) := ⟨rfl, rfl, rfl, by decide +kernel, rfl, by decide +kernel, by decide +kernel⟩
def preIM (C CI : Addr) : List D → Prop := fun ds => (∃ i n d, ds = [i, rat C n d] ∧ IvD C CI 900 i ∧ OkK 900 n d) ∨ ∃ i n, ds = [i, .int n] ∧ IvD C CI 900 i ∧ Bd 900 n
def postIM (C CI : Addr) : List D → D → Prop := fun ds => MulIP C CI (lo (a0 ds)) (hi (a0 ds)) (a1 ds)
theorem clsRI {K : PySem.W.Frag} {G : Hp} {vs : List V} (h : Reps K G [.ref C, .ty "int"] vs) : Paired ClsV vs [.ref C, .type "int"] := by
  simp only [Reps, Rep] at h
  obtain ⟨x, r, rfl, rfl, y, s, rfl, rfl, rfl⟩ := h
  exact .cons (.own C) (.cons (.ty "int") .nil)
theorem sgn_lt0 {n : Int} : decide (sgn n < 0) = decide (n < 0) := by
  unfold sgn
  by_cases h1 : n < 0
  · rw [if_pos h1, decide_eq_true h1]; rfl
  · rw [if_neg h1]
    by_cases h2 : 0 < n
    · rw [if_pos h2, decide_eq_false h1]; rfl
    · rw [if_neg h2, decide_eq_false h1]; rfl
theorem ok_imul (F : Dm K CI "__mul__" "Interval.__mul__" sIMul ["self", "factor"] f fd) (IB : IvB P w K mg base C CI) : FnOk P w K mg base CX0 8 f fd ["self", "factor"] (spF K (preIM C CI) (postIM C CI)) := by
  obtain ⟨B, tR, tI, MI, MI1, MAdd, MSub, MMul, MRmul, MSign, MBool, MEqN, GBey, GLar, GSma, GSum, GMul, MV⟩ := IB
  refine ok_F F.fn scIMul (fun ds h => by rcases h with ⟨_, _, _, e, _⟩ | ⟨_, _, e, _⟩ <;> rw [e] <;> rfl) fun cdv Ar outer sh Hp0 xE Fr ds hr hm hp => ?_
  have nd := scIMul.nd
  obtain ⟨i, g, e, hi, hg⟩ : ∃ i g, ds = [i, g] ∧ IvD C CI 900 i ∧ ((∃ n d, g = rat C n d ∧ OkK 900 n d) ∨ ∃ n, g = .int n ∧ Bd 900 n) := by
    rcases hp with ⟨i, n, d, e, h1, h2⟩ | ⟨i, n, e, h1, h2⟩
    · exact ⟨i, _, e, h1, .inl ⟨n, d, rfl, h2⟩⟩
    · exact ⟨i, _, e, h1, .inr ⟨n, rfl, h2⟩⟩
  subst e
  cases hi with
  | @mk x y hx hy hb =>
    show W _ _ _ _ _ [some (.d (ivl CI x y)), some (.d g), none, none]
    have bg : Bd 900 (nu g) := by
      rcases hg with ⟨n, d, rfl, h⟩ | ⟨n, rfl, h⟩
      · exact h.2.1
      · exact h
    have dg : 0 < de g ∧ Bd 900 (de g) := by
      rcases hg with ⟨n, d, rfl, h⟩ | ⟨n, rfl, h⟩
      · exact ⟨h.1, h.2.2⟩
      · exact ⟨show (0 : Int) < 1 by decide, (Bd.lit (k := 1) (x := 1)).mono (by decide)⟩
    -- not an instance of one of the two
    refine W.cut (fun o r => r = [some (.d (ivl CI x y)), some (.d g), none, none]) ?_ ?_
    · refine W1.iff ?_
      refine T.not ?_
      refine T.truth ?_
      refine E.isiT B.isinstance ?_
      refine E.var 1 rfl ?_
      have ty : ∃ t, TyD (cx0 P w K mg base ["self", "factor", "number", "ends"] "Interval.__mul__" (defScope sIMul) f cdv Ar outer sh Hp0 xE) g t ∧ PySem.W.kitAny K t [.ref C, .type "int"] = some true := by
        rcases hg with ⟨n, d, rfl, h⟩ | ⟨n, rfl, h⟩
        · exact ⟨_, TyD.ins tR.isc, tI.aR⟩
        · exact ⟨_, TyD.int, tI.aI⟩
      obtain ⟨t, ty, tk⟩ := ty
      refine ⟨_, t, rfl, ty, ?_⟩
      refine A.cons ?_
      refine E.globR tR.mgR ?_
      refine A.cons ?_
      refine E.bty B.int bt_int ?_
      refine A.nil ?_
      refine ⟨[_, _], _, _, rfl, sz2, fun _ _ h => clsRI h, tk, ?_⟩
      refine Tr.bl ?_
      exact iteF (W.nil rfl)
    rintro o ρ rfl
    refine W.cut (fun o r => nu g ≠ 0 ∧ r = [some (.d (ivl CI x y)), some (.d g), none, none]) ?_ ?_
    · refine W1.iff ?_
      refine T.not ?_
      refine T.truth ?_
      refine E.var 1 rfl ?_
      have zero : W (cx0 P w K mg base ["self", "factor", "number", "ends"] "Interval.__mul__" (defScope sIMul) f cdv Ar outer sh Hp0 xE) Fr (defBody sIMul) { nx := fun _ _ => True, rt := fun _ _ => True } o [none] → True := fun _ => trivial
      rcases hg with ⟨n, d, rfl, h⟩ | ⟨n, rfl, h⟩
      · refine Tr.dT MBool (hr.mono (by decide)) ⟨_, _, rfl, h.ok⟩ ?_
        rintro _ rfl
        refine ⟨_, rfl, ?_⟩
        refine two2n (fun hz => ?_) (fun hz => W.nil ⟨of_decide_eq_true hz, rfl⟩)
        have hz : n = 0 := by
          have := of_decide_eq_false hz
          exact Decidable.not_not.mp this
        refine W.cons ?_
        refine W1.ret ?_
        refine E.dmake MV tI.mgI (hr.mono (by decide)) ?_
        refine A.cons ?_
        refine E.dmake MI1 tR.mgR (hr.mono (by decide)) ?_
        refine A.cons ?_
        refine E.int ?_
        refine A.nil ?_
        refine ⟨[.int _], rfl, ⟨_, _, rfl, by decide, Bd.lit, Bd.lit⟩, ?_⟩
        rintro fs ⟨p, q, rfl, h1⟩
        refine A.cons ?_
        refine E.dmake MI1 tR.mgR (hr.mono (by decide)) ?_
        refine A.cons ?_
        refine E.int ?_
        refine A.nil ?_
        refine ⟨[.int _], rfl, ⟨_, _, rfl, by decide, Bd.lit, Bd.lit⟩, ?_⟩
        rintro fs ⟨p2, q2, rfl, h2⟩
        refine A.nil ?_
        have h1 : Nrm 0 1 p q := h1
        have h2 : Nrm 0 1 p2 q2 := h2
        have p0 := (nrm_zero h1 (by decide)).mpr rfl
        have p1 := (nrm_zero h2 (by decide)).mpr rfl
        have l1 := h1.le (by decide)
        have l2 := h2.le (by decide)
        refine ⟨[_, _], rfl, ⟨_, _, rfl, .rat ⟨h1.1, (Bd.lit (k := 1) (x := 0)).le l1.1 |>.mono (by decide), (Bd.lit (k := 1) (x := 1)).le l1.2 |>.mono (by decide)⟩, .rat ⟨h2.1, (Bd.lit (k := 1) (x := 0)).le l2.1 |>.mono (by decide), (Bd.lit (k := 1) (x := 1)).le l2.2 |>.mono (by decide)⟩, ?_⟩, ?_⟩
        · rw [bey_rr, p0, p1]; simp
        rintro fs rfl
        exact ⟨_, rfl, .inl ⟨hz, _, _, rfl, ⟨_, _, rfl, h1⟩, ⟨_, _, rfl, h2⟩⟩⟩
      · refine Tr.int ?_
        refine two2n (fun hz => ?_) (fun hz => W.nil ⟨of_decide_eq_true hz, rfl⟩)
        have hz : n = 0 := by
          have := of_decide_eq_false hz
          exact Decidable.not_not.mp this
        refine W.cons ?_
        refine W1.ret ?_
        refine E.dmake MV tI.mgI (hr.mono (by decide)) ?_
        refine A.cons ?_
        refine E.dmake MI1 tR.mgR (hr.mono (by decide)) ?_
        refine A.cons ?_
        refine E.int ?_
        refine A.nil ?_
        refine ⟨[.int _], rfl, ⟨_, _, rfl, by decide, Bd.lit, Bd.lit⟩, ?_⟩
        rintro fs ⟨p, q, rfl, h1⟩
        refine A.cons ?_
        refine E.dmake MI1 tR.mgR (hr.mono (by decide)) ?_
        refine A.cons ?_
        refine E.int ?_
        refine A.nil ?_
        refine ⟨[.int _], rfl, ⟨_, _, rfl, by decide, Bd.lit, Bd.lit⟩, ?_⟩
        rintro fs ⟨p2, q2, rfl, h2⟩
        refine A.nil ?_
        have h1 : Nrm 0 1 p q := h1
        have h2 : Nrm 0 1 p2 q2 := h2
        have p0 := (nrm_zero h1 (by decide)).mpr rfl
        have p1 := (nrm_zero h2 (by decide)).mpr rfl
        have l1 := h1.le (by decide)
        have l2 := h2.le (by decide)
        refine ⟨[_, _], rfl, ⟨_, _, rfl, .rat ⟨h1.1, (Bd.lit (k := 1) (x := 0)).le l1.1 |>.mono (by decide), (Bd.lit (k := 1) (x := 1)).le l1.2 |>.mono (by decide)⟩, .rat ⟨h2.1, (Bd.lit (k := 1) (x := 0)).le l2.1 |>.mono (by decide), (Bd.lit (k := 1) (x := 1)).le l2.2 |>.mono (by decide)⟩, ?_⟩, ?_⟩
        · rw [bey_rr, p0, p1]; simp
        rintro fs rfl
        exact ⟨_, rfl, .inl ⟨hz, _, _, rfl, ⟨_, _, rfl, h1⟩, ⟨_, _, rfl, h2⟩⟩⟩
    rintro o ρ ⟨hz, rfl⟩
    -- number = Ratio(1) * factor
    refine W.cut (fun o r => ∃ p q, Nrm (nu g) (de g) p q ∧ r = [some (.d (ivl CI x y)), some (.d g), some (.d (rat C p q)), none]) ?_ ?_
    · refine W1.set 2 ?_ nd
      refine E.bin ?_
      refine E.dmake MI1 tR.mgR (hr.mono (by decide)) ?_
      refine A.cons ?_
      refine E.int ?_
      refine A.nil ?_
      refine ⟨[.int _], rfl, ⟨_, _, rfl, by decide, Bd.lit, Bd.lit⟩, ?_⟩
      rintro fs ⟨u, v, rfl, h1⟩
      have h1 : Nrm 1 1 u v := h1
      have ou : Ok u v := okn (k := 1) (j := 1) h1 (by decide) Bd.lit Bd.lit
      refine E.var 1 rfl ?_
      rcases hg with ⟨n, d, rfl, h⟩ | ⟨n, rfl, h⟩
      · refine O2.dB tR.sf dn_mul MMul (hr.mono (by decide)) (.inl ⟨_, _, _, _, rfl, ou, h.ok⟩) ?_
        rintro _ ⟨p, q, rfl, hn⟩
        have hn : Nrm (u * n) (v * d) p q := hn
        have hd := h.1
        refine ⟨p, q, hn.conv (Int.mul_ne_zero (nrm_pos_ne h1) (by omega)) ?_, rfl⟩
        have := h1.2.1
        show u * n * d = n * (v * d)
        grind
      · refine O2.dI tR.sf dn_mul dr_mul MMul MRmul (hr.mono (by decide)) tR.iM tR.iRM tR.subI (.inr ⟨_, _, _, rfl, ou, h.mono (by decide)⟩) ?_
        rintro _ ⟨p, q, rfl, hn⟩
        have hn : Nrm (u * n) (v * 1) p q := hn
        refine ⟨p, q, hn.conv (Int.mul_ne_zero (nrm_pos_ne h1) (by decide)) ?_, rfl⟩
        have := h1.2.1
        show u * n * 1 = n * (v * 1)
        grind
    rintro o ρ ⟨p, q, hn, rfl⟩
    have hl := hn.le (by omega)
    have okf : OkK 900 p q := ⟨hn.1, bg.le hl.1, dg.2.le hl.2⟩
    refine W.cons ?_
    refine W1.set 3 ?_ nd
    refine E.lst ?_
    refine A.cons ?_
    refine E.dcall GMul (hr.mono (by decide)) ?_
    refine A.cons ?_
    refine E.fld ?_
    refine E.var 0 rfl ?_
    refine ⟨_, _, _, _, rfl, tI.cls, tI.nl, rfl, ?_⟩
    refine A.cons ?_
    refine E.var 2 rfl ?_
    refine A.nil ?_
    refine ⟨[_, _], rfl, ⟨_, _, _, rfl, hx.mono, okf.mono⟩, ?_⟩
    rintro r h1
    refine A.cons ?_
    refine E.dcall GMul (hr.mono (by decide)) ?_
    refine A.cons ?_
    refine E.fld ?_
    refine E.var 0 rfl ?_
    refine ⟨_, _, _, _, rfl, tI.cls, tI.nh, rfl, ?_⟩
    refine A.cons ?_
    refine E.var 2 rfl ?_
    refine A.nil ?_
    refine ⟨[_, _], rfl, ⟨_, _, _, rfl, hy.mono, okf.mono⟩, ?_⟩
    rintro s h2
    refine A.nil ?_
    walk_at "disp"
    walk_at "n"
    have h1 : MulP C x (rat C p q) r := h1
    have h2 : MulP C y (rat C p q) s := h2
    have e1 := MulP.endD h1 hx okf
    have e2 := MulP.endD h2 hy okf
    have m1 := MulP.conv h1 hx hn
    have m2 := MulP.conv h2 hy hn
    have hs : (p < 0 ↔ nu g < 0) := by
      have := sgn_of hn dg.1
      unfold sgn at this
      constructor
      · intro z
        rw [if_pos z] at this
        by_cases h : nu g < 0
        · exact h
        · rw [if_neg h] at this; split at this <;> omega
      · intro z
        rw [if_pos z] at this
        by_cases h : p < 0
        · exact h
        · rw [if_neg h] at this; split at this <;> omega
    refine W.cons ?_
    refine W1.iff ?_
    refine T.cmp ?_
    refine E.dmeth0 tR.cls MSign (hr.mono (by decide)) ?_
    refine E.var 2 rfl ?_
    skip
    refine ⟨_, _, rfl, rfl, ⟨_, _, rfl, okf.ok⟩, ?_⟩
    rintro _ rfl
    refine E.int ?_
    walk_at "o"
    refine ⟨_, rfl, ?_⟩
    show if decide (sgn p < 0) = true then _ else _
    rw [sgn_lt0]
    refine ifd (fun h => ?_) (fun h => W.nil ?_)
    · skip
      refine W.cons ?_
      refine W1.ret ?_
      refine E.dmake MV tI.mgI (hr.mono (by decide)) ?_
      refine A.cons ?_
      refine E.ix ?_
      refine E.var 3 rfl ?_
      refine E.int ?_
      walk_at "ix"
      refine A.cons ?_
      refine E.ix ?_
      refine E.var 3 rfl ?_
      refine E.int ?_
      walk_at "ix"
      refine A.nil ?_
      refine ⟨[_, _], rfl, ⟨_, _, rfl, e2, e1, MulP.beyN h1 h2 hx hy okf.1 (by omega) hb⟩, ?_⟩
      rintro fs rfl
      exact ⟨_, rfl, .inr (.inr ⟨hs.mp h, _, _, rfl, m2, m1⟩)⟩
    · skip
      refine W.cons ?_
      refine W1.ret ?_
      refine E.dmake MV tI.mgI (hr.mono (by decide)) ?_
      refine A.cons ?_
      refine E.ix ?_
      refine E.var 3 rfl ?_
      refine E.int ?_
      walk_at "ix"
      refine A.cons ?_
      refine E.ix ?_
      refine E.var 3 rfl ?_
      refine E.int ?_
      walk_at "ix"
      refine A.nil ?_
      refine ⟨[_, _], rfl, ⟨_, _, rfl, e1, e2, MulP.bey h1 h2 hx hy okf.1 (by omega) hb⟩, ?_⟩
      rintro fs rfl
      refine ⟨_, rfl, .inr (.inl ⟨?_, _, _, rfl, m1, m2⟩)⟩
      have : ¬ nu g < 0 := fun z => h (hs.mpr z)
      show 0 < nu g
      omega
end

theorem SumP.endE {C : Addr} {k j : Nat} {x y r : D} (h : SumP C x y r) (hx : EndD C k x) (hy : EndD C j y) : EndD C (k + j + 1) r := by
  rcases h with ⟨_, rfl⟩ | ⟨_, _, p, q, rfl, hn⟩
  · exact .non
  · cases hx with
    | non => contradiction
    | rat hx => cases hy with
      | non => contradiction
      | rat hy =>
        have hn : Nrm (_ * _ + _ * _) (_ * _) p q := hn
        have hp := Int.mul_pos hx.1 hy.1
        have hl := hn.le (Int.ne_of_gt hp)
        refine .rat ⟨hn.1, ?_, ?_⟩
        · exact (((hx.2.1.mul hy.2.2).add (hy.2.1.mul hx.2.2)).le hl.1).mono (by rw [Nat.add_comm j k, Nat.max_self]; exact Nat.le_refl _)
        · exact ((hx.2.2.mul hy.2.2).le hl.2).mono (by omega)
theorem MulP.endE {C : Addr} {k j : Nat} {x f r : D} (h : MulP C x f r) (hx : EndD C k x) (hf : OkK j (nu f) (de f)) : EndD C (k + j) r := by
  rcases h with ⟨_, rfl⟩ | ⟨_, p, q, rfl, hn⟩
  · exact .non
  · cases hx with
    | non => contradiction
    | rat hx =>
        have hn : Nrm (_ * nu f) (_ * de f) p q := hn
        have hp := Int.mul_pos hx.1 hf.1
        have hl := hn.le (Int.ne_of_gt hp)
        exact .rat ⟨hn.1, ((hx.2.1.mul hf.2.1).le hl.1).mono (Nat.le_refl _), ((hx.2.2.mul hf.2.2).le hl.2).mono (Nat.le_refl _)⟩
theorem MulP.beyG {C : Addr} {k : Nat} {x y r s f : D} (h1 : MulP C x f r) (h2 : MulP C y f s) (hx : EndD C k x) (hy : EndD C k y) (hd : 0 < de f) (hn0 : 0 ≤ nu f) (b1 : Toy.bey x y = false) : Toy.bey r s = false := by
  have e : ∀ x r, MulP C x f r → MulP C x (rat C (nu f) (de f)) r := fun x r h => h
  exact MulP.bey (e _ _ h1) (e _ _ h2) hx hy hd hn0 b1
theorem MulP.beyM {C : Addr} {k : Nat} {x y r s f : D} (h1 : MulP C x f r) (h2 : MulP C y f s) (hx : EndD C k x) (hy : EndD C k y) (hd : 0 < de f) (hn0 : nu f ≤ 0) (b1 : Toy.bey x y = false) : Toy.bey s r = false := by
  have e : ∀ x r, MulP C x f r → MulP C x (rat C (nu f) (de f)) r := fun x r h => h
  exact MulP.beyN (e _ _ h1) (e _ _ h2) hx hy hd hn0 b1
theorem isR01 {C : Addr} {z : D} (h : isR C 0 1 z) : ∃ q, z = rat C 0 q ∧ OkK 1 0 q := by
  obtain ⟨p, q, rfl, hn⟩ := h
  have p0 := (nrm_zero hn (by decide)).mpr rfl
  subst p0
  have l := hn.le (by decide)
  exact ⟨q, rfl, hn.1, Bd.lit, (Bd.lit (k := 1) (x := 1)).le l.2⟩
theorem MulIP.ivd {C CI : Addr} {k j : Nat} {x y f r : D} (h : MulIP C CI x y f r) (hx : EndD C k x) (hy : EndD C k y) (hb : bey x y = false) (hf : OkK j (nu f) (de f)) (hk : 1 ≤ k + j) : IvD C CI (k + j) r := by
  rcases h with ⟨_, z, z', rfl, h1, h2⟩ | ⟨hp, z, z', rfl, h1, h2⟩ | ⟨hp, z, z', rfl, h1, h2⟩
  · obtain ⟨q, rfl, o1⟩ := isR01 h1
    obtain ⟨q', rfl, o2⟩ := isR01 h2
    exact .mk (.rat (o1.mono hk)) (.rat (o2.mono hk)) (by rw [bey_rr]; simp)
  · exact .mk (h1.endE hx hf) (h2.endE hy hf) (MulP.beyG h1 h2 hx hy hf.1 (by omega) hb)
  · exact .mk (h1.endE hy hf) (h2.endE hx hf) (MulP.beyM h2 h1 hx hy hf.1 (by omega) hb)
theorem AddIP.ivd {C CI : Addr} {k j : Nat} {x y x' y' r : D} (h : AddIP C CI x y x' y' r) (hx : EndD C k x) (hy : EndD C k y) (hb : bey x y = false) (hx' : EndD C j x') (hy' : EndD C j y') (hb' : bey x' y' = false) : IvD C CI (k + j + 1) r := by
  obtain ⟨z, z', rfl, h1, h2⟩ := h
  exact .mk (h1.endE hx hx') (h2.endE hy hy') (SumP.bey h1 h2 hx hy hx' hy' hb hb')
theorem MulIP.conv {C CI : Addr} {k : Nat} {x y f r : D} {p q : Int} (h : MulIP C CI x y (rat C p q) r) (hx : EndD C k x) (hy : EndD C k y) (hn : Nrm (nu f) (de f) p q) (hd : 0 < de f) : MulIP C CI x y f r := by
  have hs := sgn_of hn hd
  unfold sgn at hs
  rcases h with ⟨hp, z, z', rfl, h1, h2⟩ | ⟨hp, z, z', rfl, h1, h2⟩ | ⟨hp, z, z', rfl, h1, h2⟩
  · have hp : p = 0 := hp
    exact .inl ⟨(nrm_zero hn (by omega)).mp hp, _, _, rfl, h1, h2⟩
  · have hp : 0 < p := hp
    refine .inr (.inl ⟨?_, _, _, rfl, h1.conv hx hn, h2.conv hy hn⟩)
    rw [if_neg (by omega), if_pos hp] at hs
    by_cases g1 : nu f < 0
    · rw [if_pos g1] at hs; omega
    · rw [if_neg g1] at hs
      by_cases g2 : 0 < nu f
      · exact g2
      · rw [if_neg g2] at hs; omega
  · have hp : p < 0 := hp
    refine .inr (.inr ⟨?_, _, _, rfl, h1.conv hy hn, h2.conv hx hn⟩)
    rw [if_pos hp] at hs
    by_cases g1 : nu f < 0
    · exact g1
    · rw [if_neg g1] at hs
      split at hs <;> omega
theorem larL_end {C : Addr} {k : Nat} {x y : D} (hx : EndD C k x) (hy : EndD C k y) : EndD C k (larL x y) := by
  unfold larL
  split
  · exact hy
  · split
    · exact hx
    · exact hy
theorem smaH_end {C : Addr} {k : Nat} {x y : D} (hx : EndD C k x) (hy : EndD C k y) : EndD C k (smaH x y) := by
  unfold smaH
  split
  · exact hy
  · split
    · exact hx
    · exact hy
theorem bey_self {C : Addr} {k : Nat} {x : D} (hx : EndD C k x) : bey x x = false := by
  cases hx with
  | non => rfl
  | rat h => rw [bey_rr]; simp
/-- weights times intervals, added up from t -/
inductive WI (C CI : Addr) : List D → List D → D → D → Prop where
  | nil {t : D} : WI C CI [] [] t t
  | snoc {ws is : List D} {w i t u m r : D} (h : WI C CI ws is t u) (h1 : MulIP C CI (lo i) (hi i) w m) (h2 : AddIP C CI (lo u) (hi u) (lo m) (hi m) r) : WI C CI (ws ++ [w]) (is ++ [i]) t r
def itm : D → List D
  | .lst l => l
  | .tup l => l
  | _ => []

section
variable {P : Program} {w : World} {K : PySem.W.Frag} {mg : Str → Option Value} {base : Heap} {C CI : Addr} {f : Addr} {fd : FuncData}
abbrev KIMul (P : Program) (w : World) (K : PySem.W.Frag) (mg : Str → Option Value) (base : Heap) (C CI : Addr) : Prop := MOk P w K mg base CX0 CI "__mul__" 8 (spF K (preIM C CI) (postIM C CI))
theorem preIM_cases {ds : List D} (h : preIM C CI ds) : ∃ x y g, ds = [ivl CI x y, g] ∧ EndD C 900 x ∧ EndD C 900 y ∧ bey x y = false ∧ ((∃ n d, g = rat C n d ∧ OkK 900 n d) ∨ ∃ n, g = .int n ∧ Bd 900 n) := by
  rcases h with ⟨i, n, d, e, h1, h2⟩ | ⟨i, n, e, h1, h2⟩ <;> cases h1 with
  | @mk x y hx hy hb => first | exact ⟨x, y, _, e, hx, hy, hb, .inl ⟨n, d, rfl, h2⟩⟩ | exact ⟨x, y, _, e, hx, hy, hb, .inr ⟨n, rfl, h2⟩⟩
theorem O2.ivMul {X : Cx} {F : Fm} {own : List Cell} {Q : QE} {x y g : D} {sp : Sp} {k : Nat} {CX : CXT} (tR : RatT X.K X.mg C) (tI : IvT X.K X.mg C CI) (MIMul : KIMul X.prog X.w X.K X.mg X.base C CI) (MIR : MOk X.prog X.w X.K X.mg X.base CX CI "__rmul__" k sp) (MMul : MOk X.prog X.w X.K X.mg X.base CX0 C "__mul__" 3 (spF X.K (pre2 C) (postMul C))) (MRmul : MOk X.prog X.w X.K X.mg X.base CX0 C "__rmul__" 4 (spF X.K (preI2 C) (postMul C)))
    (hr : Room 8 X.A) (hp : preIM C CI [ivl CI x y, g]) (h : ∀ r, MulIP C CI x y g r → Q own (.d r)) : O2 X F (.bin .Mult) (.d (ivl CI x y)) (.d g) Q own := by
  rcases hp with ⟨i, n, d, e, h1, h2⟩ | ⟨i, n, e, h1, h2⟩
  · cases e
    exact O2.dL2 tI.ne.symm tI.sf tR.sf dn_mul dr_mul MIMul MIR MMul MRmul hr tI.sCI (.inl ⟨_, _, _, rfl, h1, h2⟩) fun d hd => h d hd
  · cases e
    exact O2.dI tI.sf dn_mul dr_mul MIMul MIR hr tR.iM tR.iRM tI.sii (.inr ⟨_, _, rfl, h1, h2⟩) fun d hd => h d hd
abbrev sIRmul : Stmt := inClass (top 25) 6
theorem scIRmul : FnScope ["self", "factor"] ["self", "factor"] (defScope sIRmul) := ⟨rfl, rfl, rfl, by decide +kernel, rfl, by decide +kernel, by decide +kernel⟩
theorem ok_irmul (F : Dm K CI "__rmul__" "Interval.__rmul__" sIRmul ["self", "factor"] f fd) (IB : IvB P w K mg base C CI) (MIMul : KIMul P w K mg base C CI) : FnOk P w K mg base CX0 9 f fd ["self", "factor"] (spF K (preIM C CI) (postIM C CI)) := by
  obtain ⟨B, tR, tI, MI, MI1, MAdd, MSub, MMul, MRmul, MSign, MBool, MEqN, GBey, GLar, GSma, GSum, GMul, MV⟩ := IB
  have MIR : MOk P w K mg base CX0 CI "__rmul__" 0 (fun _ _ _ _ => False) := F.ok ⟨fun _ _ _ _ h => h.elim, fun _ _ _ _ _ _ _ _ _ _ _ _ _ h => h.elim⟩
  refine ok_F F.fn scIRmul (fun ds h => by rcases h with ⟨_, _, _, e, _⟩ | ⟨_, _, e, _⟩ <;> rw [e] <;> rfl) fun cdv Ar outer sh Hp0 xE Fr ds hr hm hp => ?_
  have nd := scIRmul.nd
  obtain ⟨x, y, g, e, hx, hy, hb, hg⟩ := preIM_cases hp
  subst e
  show W _ _ _ _ _ [some (.d (ivl CI x y)), some (.d g)]
  refine W.cons ?_
  refine W1.ret ?_
  refine E.bin ?_
  refine E.var 0 rfl ?_
  refine E.var 1 rfl ?_
  exact O2.ivMul tR tI MIMul MIR MMul MRmul hr hp fun r h => ⟨_, rfl, h⟩
abbrev sINeg : Stmt := inClass (top 25) 7
theorem scINeg : FnScope ["self"] ["self"] (defScope sINeg) := ⟨rfl, rfl, rfl, by decide +kernel, rfl, by decide +kernel, by decide +kernel⟩
def preI1 (C CI : Addr) (k : Nat) : List D → Prop := fun ds => ∃ i, ds = [i] ∧ IvD C CI k i
theorem ok_ineg {k2 : Nat} {sp2 : Sp} (F : Dm K CI "__neg__" "Interval.__neg__" sINeg ["self"] f fd) (IB : IvB P w K mg base C CI) (MIMul : KIMul P w K mg base C CI) (MIR : MOk P w K mg base CX0 CI "__rmul__" k2 sp2) : FnOk P w K mg base CX0 9 f fd ["self"] (spF K (preI1 C CI 900) fun ds => MulIP C CI (lo (a0 ds)) (hi (a0 ds)) (.int (-1))) := by
  obtain ⟨B, tR, tI, MI, MI1, MAdd, MSub, MMul, MRmul, MSign, MBool, MEqN, GBey, GLar, GSma, GSum, GMul, MV⟩ := IB
  refine ok_F F.fn scINeg (fun ds ⟨_, e, _⟩ => by rw [e]; rfl) fun cdv Ar outer sh Hp0 xE Fr ds hr hm ⟨i, e, hi⟩ => ?_
  have nd := scINeg.nd
  subst e
  cases hi with
  | @mk x y hx hy hb =>
    show W _ _ _ _ _ [some (.d (ivl CI x y))]
    refine W.cons ?_
    refine W1.ret ?_
    refine E.bin ?_
    refine E.var 0 rfl ?_
    refine E.dmake MI1 tR.mgR (hr.mono (by decide)) ?_
    refine A.cons ?_
    refine E.un ?_
    refine E.int ?_
    walk_at "u"
    refine A.nil ?_
    refine ⟨[.int _], rfl, ⟨_, _, rfl, by decide, Bd.lit, Bd.lit⟩, ?_⟩
    rintro fs ⟨p, q, rfl, hn⟩
    have hn : Nrm (-1) 1 p q := hn
    have hl := hn.le (by decide)
    have ok : OkK 900 p q := ⟨hn.1, ((Bd.lit (k := 1) (x := -1)).le hl.1).mono (by decide), ((Bd.lit (k := 1) (x := 1)).le hl.2).mono (by decide)⟩
    refine O2.ivMul tR tI MIMul MIR MMul MRmul hr (.inl ⟨_, _, _, rfl, .mk hx hy hb, ok⟩) fun r h => ?_
    exact ⟨_, rfl, MulIP.conv h hx hy hn (by decide)⟩
abbrev sICom : Stmt := inClass (top 25) 8
theorem scICom : FnScope ["self", "other", "low", "high"] ["self", "other"] (defScope sICom) := ⟨rfl, rfl, rfl, by decide +kernel, rfl, by decide +kernel, by decide +kernel⟩
def comI (CI : Addr) (i j : D) : D := if bey (larL (lo i) (lo j)) (smaH (hi i) (hi j)) = true then .non else ivl CI (larL (lo i) (lo j)) (smaH (hi i) (hi j))
theorem ok_icom (F : Dm K CI "common" "Interval.common" sICom ["self", "other"] f fd) (IB : IvB P w K mg base C CI) : FnOk P w K mg base CX0 8 f fd ["self", "other"] (spF K (preII C CI 1900) fun ds r => r = comI CI (a0 ds) (a1 ds)) := by
  obtain ⟨B, tR, tI, MI, MI1, MAdd, MSub, MMul, MRmul, MSign, MBool, MEqN, GBey, GLar, GSma, GSum, GMul, MV⟩ := IB
  refine ok_F F.fn scICom (fun ds ⟨_, _, e, _⟩ => by rw [e]; rfl) fun cdv Ar outer sh Hp0 xE Fr ds hr hm ⟨i, j, e, hi, hj⟩ => ?_
  have nd := scICom.nd
  subst e
  cases hi with
  | @mk x y hx hy hb => cases hj with
    | @mk x' y' hx' hy' hb' =>
      show W _ _ _ _ _ [some (.d (ivl CI x y)), some (.d (ivl CI x' y')), none, none]
      refine W.cons ?_
      refine W1.set 2 ?_ nd
      refine E.dcall GLar (hr.mono (by decide)) ?_
      refine A.cons ?_
      refine E.fld ?_
      refine E.var 0 rfl ?_
      refine ⟨_, _, _, _, rfl, tI.cls, tI.nl, rfl, ?_⟩
      refine A.cons ?_
      refine E.fld ?_
      refine E.var 1 rfl ?_
      refine ⟨_, _, _, _, rfl, tI.cls, tI.nl, rfl, ?_⟩
      refine A.nil ?_
      refine ⟨[_, _], rfl, ⟨_, _, rfl, hx, hx'⟩, ?_⟩
      rintro _ rfl
      walk_at "n"
      refine W.cons ?_
      refine W1.set 3 ?_ nd
      refine E.dcall GSma (hr.mono (by decide)) ?_
      refine A.cons ?_
      refine E.fld ?_
      refine E.var 0 rfl ?_
      refine ⟨_, _, _, _, rfl, tI.cls, tI.nh, rfl, ?_⟩
      refine A.cons ?_
      refine E.fld ?_
      refine E.var 1 rfl ?_
      refine ⟨_, _, _, _, rfl, tI.cls, tI.nh, rfl, ?_⟩
      refine A.nil ?_
      refine ⟨[_, _], rfl, ⟨_, _, rfl, hy, hy'⟩, ?_⟩
      rintro _ rfl
      walk_at "n"
      refine W.cons ?_
      refine W1.iff ?_
      refine T.truth ?_
      refine E.dcall GBey (hr.mono (by decide)) ?_
      refine A.cons ?_
      refine E.var 2 rfl ?_
      refine A.cons ?_
      refine E.var 3 rfl ?_
      refine A.nil ?_
      refine ⟨[_, _], rfl, ⟨_, _, rfl, larL_end hx hx', smaH_end hy hy'⟩, ?_⟩
      rintro _ rfl
      walk_at "tr"
      refine two2 (fun h => ?_) (fun h => W.nil ?_)
      · skip
        refine W.cons ?_
        refine W1.ret ?_
        refine E.non ?_
        exact ⟨_, rfl, (if_pos h).symm⟩
      · skip
        refine W.cons ?_
        refine W1.ret ?_
        refine E.dmake MV tI.mgI (hr.mono (by decide)) ?_
        refine A.cons ?_
        refine E.var 2 rfl ?_
        refine A.cons ?_
        refine E.var 3 rfl ?_
        refine A.nil ?_
        refine ⟨[_, _], rfl, ⟨_, _, rfl, larL_end hx hx', smaH_end hy hy', h⟩, ?_⟩
        rintro fs rfl
        exact ⟨_, rfl, (if_neg fun z => Bool.false_ne_true (h.symm.trans z)).symm⟩
abbrev sINear : Stmt := inClass (top 25) 9
theorem scINear : FnScope ["self", "number"] ["self", "number"] (defScope sINear) := ⟨rfl, rfl, rfl, by decide +kernel, rfl, by decide +kernel, by decide +kernel⟩
def neaI (i g : D) : D := if bey (lo i) g = true then lo i else if bey g (hi i) = true then hi i else g
theorem ok_inear (F : Dm K CI "nearest" "Interval.nearest" sINear ["self", "number"] f fd) (IB : IvB P w K mg base C CI) : FnOk P w K mg base CX0 8 f fd ["self", "number"] (spF K (preC1 C CI) fun ds r => r = neaI (a0 ds) (a1 ds)) := by
  obtain ⟨B, tR, tI, MI, MI1, MAdd, MSub, MMul, MRmul, MSign, MBool, MEqN, GBey, GLar, GSma, GSum, GMul, MV⟩ := IB
  refine ok_F F.fn scINear (fun ds ⟨_, _, _, e, _⟩ => by rw [e]; rfl) fun cdv Ar outer sh Hp0 xE Fr ds hr hm ⟨i, n, d, e, hi, hn⟩ => ?_
  have nd := scINear.nd
  subst e
  cases hi with
  | @mk x y hx hy hb =>
    show W _ _ _ _ _ [some (.d (ivl CI x y)), some (.d (rat C n d))]
    refine W.cons ?_
    refine W1.iff ?_
    refine T.truth ?_
    refine E.dcall GBey (hr.mono (by decide)) ?_
    refine A.cons ?_
    refine E.fld ?_
    refine E.var 0 rfl ?_
    refine ⟨_, _, _, _, rfl, tI.cls, tI.nl, rfl, ?_⟩
    refine A.cons ?_
    refine E.var 1 rfl ?_
    refine A.nil ?_
    refine ⟨[_, _], rfl, ⟨_, _, rfl, hx, .rat hn⟩, ?_⟩
    rintro _ rfl
    walk_at "tr"
    refine two2 (fun h => ?_) (fun h => W.nil ?_)
    · skip
      refine W.cons ?_
      refine W1.ret ?_
      refine E.fld ?_
      refine E.var 0 rfl ?_
      refine ⟨_, _, _, _, rfl, tI.cls, tI.nl, rfl, ?_⟩
      exact ⟨_, rfl, (if_pos h).symm⟩
    refine W.cons ?_
    refine W1.iff ?_
    refine T.truth ?_
    refine E.dcall GBey (hr.mono (by decide)) ?_
    refine A.cons ?_
    refine E.var 1 rfl ?_
    refine A.cons ?_
    refine E.fld ?_
    refine E.var 0 rfl ?_
    refine ⟨_, _, _, _, rfl, tI.cls, tI.nh, rfl, ?_⟩
    refine A.nil ?_
    refine ⟨[_, _], rfl, ⟨_, _, rfl, .rat hn, hy⟩, ?_⟩
    rintro _ rfl
    walk_at "tr"
    have n1 : ¬ bey x (rat C n d) = true := by rw [show bey x (rat C n d) = false from h]; exact Bool.false_ne_true
    refine two2 (fun h2 => ?_) (fun h2 => W.nil ?_)
    · skip
      refine W.cons ?_
      refine W1.ret ?_
      refine E.fld ?_
      refine E.var 0 rfl ?_
      refine ⟨_, _, _, _, rfl, tI.cls, tI.nh, rfl, ?_⟩
      exact ⟨_, rfl, ((if_neg n1).trans (if_pos h2)).symm⟩
    · skip
      refine W.cons ?_
      refine W1.ret ?_
      refine E.var 1 rfl ?_
      exact ⟨_, rfl, ((if_neg n1).trans (if_neg fun z => Bool.false_ne_true (h2.symm.trans z))).symm⟩
abbrev sIIss : Stmt := inClass (top 25) 10
theorem scIIss : FnScope ["self"] ["self"] (defScope sIIss) := ⟨rfl, rfl, rfl, by decide +kernel, rfl, by decide +kernel, by decide +kernel⟩
theorem ok_iiss (F : Dm K CI "is_single" "Interval.is_single" sIIss ["self"] f fd) (IB : IvB P w K mg base C CI) : FnOk P w K mg base CX0 2 f fd ["self"] (spF K (preI1 C CI 1900) fun ds r => r = .bl (!isNon (lo (a0 ds)) && eqE (lo (a0 ds)) (hi (a0 ds)))) := by
  obtain ⟨B, tR, tI, MI, MI1, MAdd, MSub, MMul, MRmul, MSign, MBool, MEqN, GBey, GLar, GSma, GSum, GMul, MV⟩ := IB
  refine ok_F F.fn scIIss (fun ds ⟨_, e, _⟩ => by rw [e]; rfl) fun cdv Ar outer sh Hp0 xE Fr ds hr hm ⟨i, e, hi⟩ => ?_
  have nd := scIIss.nd
  subst e
  cases hi with
  | @mk x y hx hy hb =>
    show W _ _ _ _ _ [some (.d (ivl CI x y))]
    refine W.cons ?_
    refine W1.ret ?_
    refine E.and ?_
    refine E.cmp ?_
    refine E.fld ?_
    refine E.var 0 rfl ?_
    refine ⟨_, _, _, _, rfl, tI.cls, tI.nl, rfl, ?_⟩
    refine E.non ?_
    walk_at "o"
    refine ⟨_, rfl, ?_⟩
    refine two2n (fun h => ?_) (fun h => ?_)
    · skip
      refine E.one ?_
      refine E.cmp ?_
      refine E.fld ?_
      refine E.var 0 rfl ?_
      refine ⟨_, _, _, _, rfl, tI.cls, tI.nl, rfl, ?_⟩
      refine E.fld ?_
      refine E.var 0 rfl ?_
      refine ⟨_, _, _, _, rfl, tI.cls, tI.nh, rfl, ?_⟩
      refine O2.endEq tR tI MEqN (hr.mono (by decide)) hx hy ?_
      exact ⟨_, rfl, by show D.bl _ = D.bl (!isNon x && eqE x y); rw [h]; rfl⟩
    · exact ⟨_, rfl, by show D.bl _ = D.bl (!isNon x && eqE x y); rw [h]; rfl⟩
abbrev sISing : Stmt := inClass (top 25) 11
theorem scISing : FnScope ["cls", "number"] ["cls", "number"] (defScope sISing) := ⟨rfl, rfl, rfl, by decide +kernel, rfl, by decide +kernel, by decide +kernel⟩
theorem ok_ising (F : Fun K "single" "Interval.single" sISing f fd) (IB : IvB P w K mg base C CI) : FnOk P w K mg base CX0 8 f fd ["cls", "number"] (spF K (fun ds => ∃ x, ds = [.ref CI, x] ∧ EndD C 1900 x) fun ds r => r = ivl CI (a1 ds) (a1 ds)) := by
  obtain ⟨B, tR, tI, MI, MI1, MAdd, MSub, MMul, MRmul, MSign, MBool, MEqN, GBey, GLar, GSma, GSum, GMul, MV⟩ := IB
  refine ok_F F scISing (fun ds ⟨_, e, _⟩ => by rw [e]; rfl) fun cdv Ar outer sh Hp0 xE Fr ds hr hm ⟨x, e, hx⟩ => ?_
  have nd := scISing.nd
  subst e
  show W _ _ _ _ _ [some (.d (.ref CI)), some (.d x)]
  refine W.cons ?_
  refine W1.ret ?_
  refine E.makeV 0 MV rfl (hr.mono (by decide)) ?_
  refine A.cons ?_
  refine E.var 1 rfl ?_
  refine A.cons ?_
  refine E.var 1 rfl ?_
  refine A.nil ?_
  refine ⟨[_, _], rfl, ⟨_, _, rfl, hx, hx, bey_self hx⟩, ?_⟩
  rintro fs rfl
  exact ⟨_, rfl, rfl⟩
abbrev sIEv : Stmt := inClass (top 25) 12
theorem scIEv : FnScope ["cls"] ["cls"] (defScope sIEv) := ⟨rfl, rfl, rfl, by decide +kernel, rfl, by decide +kernel, by decide +kernel⟩
theorem ok_iev (F : Fun K "everything" "Interval.everything" sIEv f fd) (IB : IvB P w K mg base C CI) : FnOk P w K mg base CX0 8 f fd ["cls"] (spF K (fun ds => ds = [.ref CI]) fun ds r => r = ivl CI .non .non) := by
  obtain ⟨B, tR, tI, MI, MI1, MAdd, MSub, MMul, MRmul, MSign, MBool, MEqN, GBey, GLar, GSma, GSum, GMul, MV⟩ := IB
  refine ok_F F scIEv (fun ds e => by rw [e]; rfl) fun cdv Ar outer sh Hp0 xE Fr ds hr hm e => ?_
  have nd := scIEv.nd
  subst e
  show W _ _ _ _ _ [some (.d (.ref CI))]
  refine W.cons ?_
  refine W1.ret ?_
  refine E.makeV 0 MV rfl (hr.mono (by decide)) ?_
  refine A.cons ?_
  refine E.non ?_
  refine A.cons ?_
  refine E.non ?_
  refine A.nil ?_
  refine ⟨[_, _], rfl, ⟨_, _, rfl, .non, .non, rfl⟩, ?_⟩
  rintro fs rfl
  exact ⟨_, rfl, rfl⟩
end

section
variable {P : Program} {w : World} {K : PySem.W.Frag} {mg : Str → Option Value} {base : Heap} {C CI : Addr} {f : Addr} {fd : FuncData}
/-- what a ratio's product with an interval says -/
abbrev sRMul : Stmt := inClass (top 16) 5
theorem scRMul : FnScope ["self", "other"] ["self", "other"] (defScope sRMul) := ⟨rfl, rfl, rfl, by decide +kernel, rfl, by decide +kernel, by decide +kernel⟩
theorem ok_rmulNI (F : Dm K C "__mul__" "Ratio.__mul__" sRMul ["self", "other"] f fd) (B : Bl mg) (tR : RatT K mg C) (tI : IvT K mg C CI) : FnNi P w K mg base 1 f fd ["self", "other"] (fun ds => ∃ n d x y, ds = [rat C n d, ivl CI x y]) := by
  refine ok_NI F.fn scRMul (fun ds ⟨_, _, _, _, e⟩ => by rw [e]; rfl) fun cdv Ar outer sh Hp0 xE Fr ds hr hm ⟨n, d, x, y, e⟩ => ?_
  have nd := scRMul.nd
  have q1 := tI.isc
  have q3 := tI.kRI
  have q4 := tI.kIi
  subst e
  show WN _ _ _ _ [some (.d (rat C n d)), some (.d (ivl CI x y))]
  refine WN.cons ?_
  refine W1.iff ?_
  refine T.truth ?_
  refine E.callB B.isinstance bt_isinstance ?_
  refine A.cons ?_
  refine E.var 1 rfl ?_
  refine A.cons ?_
  refine E.globR tR.mgR ?_
  refine A.nil ?_
  refine Cl.isiIns q1 (fun _ _ => clsv_ref) q3 ?_
  refine Tr.bl ?_
  refine iteF (W.nil ?_)
  refine WN.cons ?_
  refine W1.iff ?_
  refine T.truth ?_
  refine E.callB B.isinstance bt_isinstance ?_
  refine A.cons ?_
  refine E.var 1 rfl ?_
  refine A.cons ?_
  refine E.bty B.int bt_int ?_
  refine A.nil ?_
  refine Cl.isiIns q1 (fun _ _ => clsv_ty) q4 ?_
  refine Tr.bl ?_
  refine iteF (W.nil ?_)
  exact WN.ret B.ni
abbrev sIAr : Stmt := inClass (top 25) 13
theorem scIAr : FnScope ["cls", "number", "error"] ["cls", "number", "error"] (defScope sIAr) := ⟨rfl, rfl, rfl, by decide +kernel, rfl, by decide +kernel, by decide +kernel⟩
def preAr (C CI : Addr) : List D → Prop := fun ds => ∃ n d m k, ds = [.ref CI, rat C n d, rat C m k] ∧ OkK 900 n d ∧ OkK 900 m k
def arI (C CI : Addr) (g e r : D) : Prop := ∃ z z', r = ivl CI z z' ∧ isR C (nu g * de e - nu e * de g) (de g * de e) z ∧ isR C (nu g * de e + nu e * de g) (de g * de e) z'
abbrev a2 (ds : List D) : D := ds.tail.tail.headD .non
theorem ar_bey {n d m k p q u v : Int} (hd : 0 < d) (hk : 0 < k) (h1 : Nrm (n * k - m * d) (d * k) p q) (h2 : Nrm (n * k + m * d) (d * k) u v) : (u * q < p * v) ↔ m < 0 := by
  have hp := Int.mul_pos hd hk
  rw [cmp_conv h1 h2 hp hp, Int.mul_lt_mul_right hp]
  constructor
  · intro h
    have : m * d < 0 * d := by omega
    exact (Int.mul_lt_mul_right hd).mp this
  · intro h
    have : m * d < 0 * d := (Int.mul_lt_mul_right hd).mpr h
    omega
theorem ok_iar (F : Fun K "around" "Interval.around" sIAr f fd) (IB : IvB P w K mg base C CI) : FnOk P w K mg base CX0 8 f fd ["cls", "number", "error"] (spF K (fun ds => preAr C CI ds ∧ 0 ≤ nu (a2 ds)) (fun ds r => arI C CI (a1 ds) (a2 ds) r)) := by
  obtain ⟨B, tR, tI, MI, MI1, MAdd, MSub, MMul, MRmul, MSign, MBool, MEqN, GBey, GLar, GSma, GSum, GMul, MV⟩ := IB
  refine ok_F F scIAr (fun ds h => by obtain ⟨_, _, _, _, e, _⟩ := h.1; rw [e]; rfl) fun cdv Ar outer sh Hp0 xE Fr ds hr hm hp => ?_
  have nd := scIAr.nd
  obtain ⟨⟨n, d, m, k, e, h1, h2⟩, hm0⟩ := hp
  subst e
  show W _ _ _ _ _ [some (.d (.ref CI)), some (.d (rat C n d)), some (.d (rat C m k))]
  refine W.cons ?_
  refine W1.ret ?_
  refine E.makeV 0 MV rfl (hr.mono (by decide)) ?_
  refine A.cons ?_
  refine E.bin ?_
  refine E.var 1 rfl ?_
  refine E.var 2 rfl ?_
  refine O2.dB tR.sf dn_sub MSub (hr.mono (by decide)) (.inl ⟨_, _, _, _, rfl, h1.ok, h2.ok⟩) ?_
  rintro _ ⟨p, q, rfl, hn⟩
  have hn : Nrm (n * k - m * d) (d * k) p q := hn
  refine A.cons ?_
  refine E.bin ?_
  refine E.var 1 rfl ?_
  refine E.var 2 rfl ?_
  refine O2.dB tR.sf dn_add MAdd (hr.mono (by decide)) (.inl ⟨_, _, _, _, rfl, h1.ok, h2.ok⟩) ?_
  rintro _ ⟨u, v, rfl, hm⟩
  have hm : Nrm (n * k + m * d) (d * k) u v := hm
  refine A.nil ?_
  have hdk := Int.mul_pos h1.1 h2.1
  have l1 := hn.le (Int.ne_of_gt hdk)
  have l2 := hm.le (Int.ne_of_gt hdk)
  have e1 : EndD C 1900 (rat C p q) := .rat ⟨hn.1, (((h1.2.1.mul h2.2.2).sub (h2.2.1.mul h1.2.2)).le l1.1).mono (by decide), ((h1.2.2.mul h2.2.2).le l1.2).mono (by decide)⟩
  have e2 : EndD C 1900 (rat C u v) := .rat ⟨hm.1, (((h1.2.1.mul h2.2.2).add (h2.2.1.mul h1.2.2)).le l2.1).mono (by decide), ((h1.2.2.mul h2.2.2).le l2.2).mono (by decide)⟩
  have hb := ar_bey h1.1 h2.1 hn hm
  have hm0 : 0 ≤ m := hm0
  refine ⟨[_, _], rfl, ⟨_, _, rfl, e1, e2, by rw [bey_rr]; exact decide_eq_false fun z => absurd (hb.mp z) (by omega)⟩, ?_⟩
  rintro fs rfl
  exact ⟨_, rfl, _, _, rfl, ⟨_, _, rfl, hn⟩, ⟨_, _, rfl, hm⟩⟩
theorem ok_iarX {Z : Addr} (F : Fun K "around" "Interval.around" sIAr f fd) (IB : IvB P w K mg base C CI) (MVX : IOk P w K mg base (L2.CX P w) CI 6 [] (spIX K CI ["low", "high"] (preEE C) postVX (excV Z))) : FnOk P w K mg base (L2.CX P w) 8 f fd ["cls", "number", "error"] (spX K (preAr C CI) (fun ds r => arI C CI (a1 ds) (a2 ds) r ∧ 0 ≤ nu (a2 ds)) (fun ds c => nu (a2 ds) < 0 ∧ c = .ref Z)) := by
  obtain ⟨B, tR, tI, MI, MI1, MAdd, MSub, MMul, MRmul, MSign, MBool, MEqN, GBey, GLar, GSma, GSum, GMul, MV⟩ := IB
  refine ok_X F scIAr (fun ds h => by obtain ⟨_, _, _, _, e, _⟩ := h; rw [e]; rfl) fun cdv Ar outer sh Hp0 xE Fr ds hr hm hp tk => ?_
  have nd := scIAr.nd
  obtain ⟨n, d, m, k, e, h1, h2⟩ := hp
  subst e
  show W _ _ _ _ _ [some (.d (.ref CI)), some (.d (rat C n d)), some (.d (rat C m k))]
  refine W.cons ?_
  refine W1.ret ?_
  refine E.makeVX 0 tk MVX rfl (hr.mono (by decide)) ?_
  refine A.cons ?_
  refine E.bin ?_
  refine E.var 1 rfl ?_
  refine E.var 2 rfl ?_
  refine O2.dB tR.sf dn_sub MSub (hr.mono (by decide)) (.inl ⟨_, _, _, _, rfl, h1.ok, h2.ok⟩) ?_
  rintro _ ⟨p, q, rfl, hn⟩
  have hn : Nrm (n * k - m * d) (d * k) p q := hn
  refine A.cons ?_
  refine E.bin ?_
  refine E.var 1 rfl ?_
  refine E.var 2 rfl ?_
  refine O2.dB tR.sf dn_add MAdd (hr.mono (by decide)) (.inl ⟨_, _, _, _, rfl, h1.ok, h2.ok⟩) ?_
  rintro _ ⟨u, v, rfl, hm⟩
  have hm : Nrm (n * k + m * d) (d * k) u v := hm
  refine A.nil ?_
  have hdk := Int.mul_pos h1.1 h2.1
  have l1 := hn.le (Int.ne_of_gt hdk)
  have l2 := hm.le (Int.ne_of_gt hdk)
  have e1 : EndD C 1900 (rat C p q) := .rat ⟨hn.1, (((h1.2.1.mul h2.2.2).sub (h2.2.1.mul h1.2.2)).le l1.1).mono (by decide), ((h1.2.2.mul h2.2.2).le l1.2).mono (by decide)⟩
  have e2 : EndD C 1900 (rat C u v) := .rat ⟨hm.1, (((h1.2.1.mul h2.2.2).add (h2.2.1.mul h1.2.2)).le l2.1).mono (by decide), ((h1.2.2.mul h2.2.2).le l2.2).mono (by decide)⟩
  have hb := ar_bey h1.1 h2.1 hn hm
  refine ⟨[_, _], rfl, ⟨_, _, rfl, e1, e2⟩, ?_, ?_⟩
  · rintro fs ⟨rfl, hz⟩
    have hz : bey (rat C p q) (rat C u v) = false := hz
    rw [bey_rr] at hz
    refine ⟨_, rfl, ⟨_, _, rfl, ⟨_, _, rfl, hn⟩, ⟨_, _, rfl, hm⟩⟩, ?_⟩
    have : ¬ m < 0 := fun z => of_decide_eq_false hz (hb.mpr z)
    show 0 ≤ m
    omega
  · rintro c ⟨hz, rfl⟩
    have hz : bey (rat C p q) (rat C u v) = true := hz
    rw [bey_rr] at hz
    exact ⟨hb.mp (of_decide_eq_true hz), rfl⟩
structure WcT (K : PySem.W.Frag) (mg : Str → Option Value) (Z : Addr) : Prop where
  mgZ : mg "WrongCount" = some (.ref Z)
  kZ : PySem.W.keepIn K (.ref Z) = true
  ex : PySem.W.excIn K Z [.type "ValueError", .type "Exception", .type "BaseException", .type "object"] "ValueError.__new__" = true
  r1 : PySem.W.subIn K (.ref Z) (.type "BaseException") = some true
  r2 : PySem.W.typeIn K (.ref Z) = some (.type "type")
def IsW (C : Addr) (x : D) : Prop := ∃ n d, x = rat C n d ∧ OkK 200 n d
def preW (C CI : Addr) (mk : List D → D) : List D → Prop := fun ds => ∃ ws is, ds = [mk ws, mk is] ∧ ws.length = is.length ∧ ws.length ≤ 2 ∧ (∀ w ∈ ws, IsW C w) ∧ ∀ i ∈ is, IvD C CI 200 i
def postW (C CI : Addr) : List D → D → Prop := fun ds r => ∃ z, isR C 0 1 z ∧ WI C CI (itm (a0 ds)) (itm (a1 ds)) (ivl CI z z) r
abbrev KSing (P : Program) (w : World) (K : PySem.W.Frag) (mg : Str → Option Value) (base : Heap) (C CI : Addr) : Prop := COk P w K mg base CX0 CI "single" 8 (spF K (fun ds => ∃ x, ds = [.ref CI, x] ∧ EndD C 1900 x) fun ds r => r = ivl CI (a1 ds) (a1 ds))
abbrev sWei : Stmt := top 26
theorem scWei : FnScope ["weights", "intervals", "total", "weight", "interval"] ["weights", "intervals"] (defScope sWei) := ⟨rfl, rfl, rfl, by decide +kernel, rfl, by decide +kernel, by decide +kernel⟩
theorem ok_weiX {Z : Addr} (F : Df K mg "weighted_interval" sWei ["weights", "intervals"] f fd) (B : Bl mg) (tW : WcT K mg Z) : FnOk P w K mg base (L2.CX P w) 1 f fd ["weights", "intervals"] (spX K (fun ds => ∃ ws is : List D, ds = [.lst ws, .lst is] ∧ ws.length ≠ is.length) (fun _ _ => False) fun _ c => c = .ref Z) := by
  refine ok_X F.fn scWei (fun ds ⟨_, _, e, _⟩ => by rw [e]; rfl) fun cdv Ar outer sh Hp0 xE Fr ds hr hm ⟨ws, is, e, hl⟩ tk => ?_
  have nd := scWei.nd
  subst e
  show W _ _ _ _ _ [some (.d (.lst ws)), some (.d (.lst is)), none, none, none]
  refine W.cons ?_
  refine W1.iff ?_
  refine T.cmp ?_
  refine E.callB B.len bt_len ?_
  refine A.cons ?_
  refine E.var 0 rfl ?_
  refine A.nil ?_
  walk_at "cl"
  refine E.callB B.len bt_len ?_
  refine A.cons ?_
  refine E.var 1 rfl ?_
  refine A.nil ?_
  walk_at "cl"
  walk_at "o"
  refine ⟨_, rfl, ?_⟩
  refine ifn (fun h => ?_) (fun h => absurd h (by omega))
  exact W.cons (W1.raise rfl tk PySem.F.excBase_ValueError tW.ex tW.mgZ tW.kZ (raises_own tW.r1 tW.r2) rfl)
theorem ok_weiL {k2 : Nat} {sp2 : Sp} (F : Df K mg "weighted_interval" sWei ["weights", "intervals"] f fd) (IB : IvB P w K mg base C CI) (CSing : KSing P w K mg base C CI) (MIMul : KIMul P w K mg base C CI) (MIR : MOk P w K mg base CX0 CI "__rmul__" k2 sp2) (MIAdd : MOk P w K mg base CX0 CI "__add__" 8 (spF K (preII C CI 900) (postIAdd C CI))) :
    FnOk P w K mg base CX0 10 f fd ["weights", "intervals"] (spF K (preW C CI D.lst) (postW C CI)) := by
  obtain ⟨B, tR, tI, MI, MI1, MAdd, MSub, MMul, MRmul, MSign, MBool, MEqN, GBey, GLar, GSma, GSum, GMul, MV⟩ := IB
  refine ok_F F.fn scWei (fun ds ⟨_, _, e, _⟩ => by rw [e]; rfl) fun cdv Ar outer sh Hp0 xE Fr ds hr hm ⟨ws, is, e, hl, h2, hw, hi⟩ => ?_
  have nd := scWei.nd
  subst e
  show W _ _ _ _ _ [some (.d (D.lst ws)), some (.d (D.lst is)), none, none, none]
  refine W.cons ?_
  refine W1.iff ?_
  refine T.cmp ?_
  refine E.callB B.len bt_len ?_
  refine A.cons ?_
  refine E.var 0 rfl ?_
  refine A.nil ?_
  walk_at "cl"
  refine E.callB B.len bt_len ?_
  refine A.cons ?_
  refine E.var 1 rfl ?_
  refine A.nil ?_
  walk_at "cl"
  walk_at "o"
  refine ⟨_, rfl, ?_⟩
  refine ifn (fun h => absurd (by omega) h) (fun h => W.nil ?_)
  refine W.cons ?_
  refine W1.set 2 ?_ nd
  refine E.cm CSing (hr.mono (by decide)) ?_
  refine E.globR tI.mgI ?_
  refine ⟨rfl, ?_⟩
  refine A.cons ?_
  refine E.dmake MI1 tR.mgR (hr.mono (by decide)) ?_
  refine A.cons ?_
  refine E.int ?_
  refine A.nil ?_
  refine ⟨[.int _], rfl, ⟨_, _, rfl, by decide, Bd.lit, Bd.lit⟩, ?_⟩
  rintro fs ⟨p, q, rfl, hn⟩
  obtain ⟨q', e, o1⟩ := isR01 (C := C) (z := rat C p q) ⟨p, q, rfl, hn⟩
  cases e
  refine A.nil ?_
  refine ⟨[_], rfl, ⟨_, rfl, .rat o1.mono⟩, ?_⟩
  rintro _ rfl
  walk_at "n"
  refine W.cut (fun o r => ∃ t u v, r = [some (.d (D.lst ws)), some (.d (D.lst is)), some (.d t), u, v] ∧ WI C CI ws is (ivl CI (rat C 0 q) (rat C 0 q)) t) ?_ ?_
  · refine W1.forZL (fun i o r => ∃ t u v, r = [some (.d (D.lst ws)), some (.d (D.lst is)), some (.d t), u, v] ∧ IvD C CI (402 * i + 2) t ∧ WI C CI (ws.take i) (is.take i) (ivl CI (rat C 0 q) (rat C 0 q)) t) B.zip rfl PassesOwn.never ?_
    refine A.cons ?_
    refine E.var 0 rfl ?_
    refine A.cons ?_
    refine E.var 1 rfl ?_
    refine A.nil ?_
    refine ⟨ws, is, rfl, hl, ⟨_, _, _, rfl, (show IvD C CI 2 (ivl CI (rat C 0 q) (rat C 0 q)) from .mk (.rat o1.mono) (.rat o1.mono) (bey_self (.rat o1))), by rw [List.take_zero, List.take_zero]; exact .nil⟩, ?_, ?_⟩
    · rintro i x y o ρ hx hy ⟨t, u, v, rfl, ht, hwi⟩
      have hi2 : i < 2 := by have := (List.getElem?_eq_some_iff.mp hx).1; omega
      obtain ⟨n, d, rfl, ow⟩ := hw x (List.mem_of_getElem? hx)
      have hy' := hi y (List.mem_of_getElem? hy)
      refine Tg.tup rfl ?_ rfl
      refine Tgs.cons ?_
      refine Tg.name 3 ?_ nd
      refine Tgs.cons ?_
      refine Tg.name 4 ?_ nd
      refine Tgs.nil ?_
      cases hy' with
      | @mk x1 y1 hx1 hy1 hb1 =>
      cases ht with
      | @mk x0 y0 hx0 hy0 hb0 =>
      refine W.cons ?_
      refine W1.set 2 ?_ nd
      refine E.bin ?_
      refine E.var 2 rfl ?_
      refine E.bin ?_
      refine E.var 4 rfl ?_
      refine E.var 3 rfl ?_
      refine O2.ivMul tR tI MIMul MIR MMul MRmul (hr.mono (by decide)) (.inl ⟨_, _, _, rfl, .mk hx1.mono hy1.mono hb1, ow.mono⟩) fun m hm => ?_
      have hmi := hm.ivd hx1 hy1 hb1 ow (by decide)
      skip
      have key : ∀ m : D, MulIP C CI x1 y1 (rat C n d) m → IvD C CI (200 + 200) m → O2 (cx0 P w K mg base ["weights", "intervals", "total", "weight", "interval"] "weighted_interval" (defScope sWei) f cdv Ar outer sh Hp0 xE) Fr (.bin .Add) (.d (ivl CI x0 y0)) (.d m) (fun o r => ∃ t : D, r = .d t ∧ ∃ z z' : D, m = ivl CI z z' ∧ AddIP C CI x0 y0 z z' t ∧ IvD C CI (402 * (i + 1) + 2) t) o := by
        intro m hm hmi
        cases hmi with
        | @mk z z' hz hz' hzb =>
          have b0 : 402 * i + 2 ≤ 900 := by omega
          refine O2.dB tI.sf dn_add MIAdd (hr.mono (by decide)) ⟨_, _, rfl, .mk (hx0.mono b0) (hy0.mono b0) hb0, .mk hz.mono hz'.mono hzb⟩ fun r hr' => ?_
          have hr' : AddIP C CI x0 y0 z z' r := hr'
          exact ⟨r, rfl, z, z', rfl, hr', (hr'.ivd hx0 hy0 hb0 hz hz' hzb).mono (by omega)⟩
      constructor
      intro ls H uu vv s0 rx ry Qv kk
      refine (key m hm hmi) ls H uu vv s0 rx ry Qv fun ls' own' H' r v l s r' ⟨t', e, z, z', em, had, hiv⟩ => ?_
      subst e
      refine kk ls' own' H' _ v l s r' ?_
      refine W.nil ⟨t', _, _, rfl, hiv, ?_⟩
      rw [List.take_succ, List.take_succ, hx, hy]
      subst em
      exact .snoc hwi hm had
    · rintro o ρ ⟨t, u, v, rfl, _, hwi⟩
      rw [List.take_length] at hwi
      rw [hl, List.take_length] at hwi
      exact ⟨t, _, _, rfl, hwi⟩
  rintro o ρ ⟨t, u, v, rfl, hwi⟩
  refine W.cons ?_
  refine W1.ret ?_
  refine E.var 2 rfl ?_
  exact ⟨_, rfl, _, ⟨_, _, rfl, hn⟩, hwi⟩
theorem ok_weiT {k2 : Nat} {sp2 : Sp} (F : Df K mg "weighted_interval" sWei ["weights", "intervals"] f fd) (IB : IvB P w K mg base C CI) (CSing : KSing P w K mg base C CI) (MIMul : KIMul P w K mg base C CI) (MIR : MOk P w K mg base CX0 CI "__rmul__" k2 sp2) (MIAdd : MOk P w K mg base CX0 CI "__add__" 8 (spF K (preII C CI 900) (postIAdd C CI))) :
    FnOk P w K mg base CX0 10 f fd ["weights", "intervals"] (spF K (preW C CI D.tup) (postW C CI)) := by
  obtain ⟨B, tR, tI, MI, MI1, MAdd, MSub, MMul, MRmul, MSign, MBool, MEqN, GBey, GLar, GSma, GSum, GMul, MV⟩ := IB
  refine ok_F F.fn scWei (fun ds ⟨_, _, e, _⟩ => by rw [e]; rfl) fun cdv Ar outer sh Hp0 xE Fr ds hr hm ⟨ws, is, e, hl, h2, hw, hi⟩ => ?_
  have nd := scWei.nd
  subst e
  show W _ _ _ _ _ [some (.d (D.tup ws)), some (.d (D.tup is)), none, none, none]
  refine W.cons ?_
  refine W1.iff ?_
  refine T.cmp ?_
  refine E.callB B.len bt_len ?_
  refine A.cons ?_
  refine E.var 0 rfl ?_
  refine A.nil ?_
  walk_at "cl"
  refine E.callB B.len bt_len ?_
  refine A.cons ?_
  refine E.var 1 rfl ?_
  refine A.nil ?_
  walk_at "cl"
  walk_at "o"
  refine ⟨_, rfl, ?_⟩
  refine ifn (fun h => absurd (by omega) h) (fun h => W.nil ?_)
  refine W.cons ?_
  refine W1.set 2 ?_ nd
  refine E.cm CSing (hr.mono (by decide)) ?_
  refine E.globR tI.mgI ?_
  refine ⟨rfl, ?_⟩
  refine A.cons ?_
  refine E.dmake MI1 tR.mgR (hr.mono (by decide)) ?_
  refine A.cons ?_
  refine E.int ?_
  refine A.nil ?_
  refine ⟨[.int _], rfl, ⟨_, _, rfl, by decide, Bd.lit, Bd.lit⟩, ?_⟩
  rintro fs ⟨p, q, rfl, hn⟩
  obtain ⟨q', e, o1⟩ := isR01 (C := C) (z := rat C p q) ⟨p, q, rfl, hn⟩
  cases e
  refine A.nil ?_
  refine ⟨[_], rfl, ⟨_, rfl, .rat o1.mono⟩, ?_⟩
  rintro _ rfl
  walk_at "n"
  refine W.cut (fun o r => ∃ t u v, r = [some (.d (D.tup ws)), some (.d (D.tup is)), some (.d t), u, v] ∧ WI C CI ws is (ivl CI (rat C 0 q) (rat C 0 q)) t) ?_ ?_
  · refine W1.forZT (fun i o r => ∃ t u v, r = [some (.d (D.tup ws)), some (.d (D.tup is)), some (.d t), u, v] ∧ IvD C CI (402 * i + 2) t ∧ WI C CI (ws.take i) (is.take i) (ivl CI (rat C 0 q) (rat C 0 q)) t) B.zip rfl PassesOwn.never ?_
    refine A.cons ?_
    refine E.var 0 rfl ?_
    refine A.cons ?_
    refine E.var 1 rfl ?_
    refine A.nil ?_
    refine ⟨ws, is, rfl, hl, ⟨_, _, _, rfl, (show IvD C CI 2 (ivl CI (rat C 0 q) (rat C 0 q)) from .mk (.rat o1.mono) (.rat o1.mono) (bey_self (.rat o1))), by rw [List.take_zero, List.take_zero]; exact .nil⟩, ?_, ?_⟩
    · rintro i x y o ρ hx hy ⟨t, u, v, rfl, ht, hwi⟩
      have hi2 : i < 2 := by have := (List.getElem?_eq_some_iff.mp hx).1; omega
      obtain ⟨n, d, rfl, ow⟩ := hw x (List.mem_of_getElem? hx)
      have hy' := hi y (List.mem_of_getElem? hy)
      refine Tg.tup rfl ?_ rfl
      refine Tgs.cons ?_
      refine Tg.name 3 ?_ nd
      refine Tgs.cons ?_
      refine Tg.name 4 ?_ nd
      refine Tgs.nil ?_
      cases hy' with
      | @mk x1 y1 hx1 hy1 hb1 =>
      cases ht with
      | @mk x0 y0 hx0 hy0 hb0 =>
      refine W.cons ?_
      refine W1.set 2 ?_ nd
      refine E.bin ?_
      refine E.var 2 rfl ?_
      refine E.bin ?_
      refine E.var 4 rfl ?_
      refine E.var 3 rfl ?_
      refine O2.ivMul tR tI MIMul MIR MMul MRmul (hr.mono (by decide)) (.inl ⟨_, _, _, rfl, .mk hx1.mono hy1.mono hb1, ow.mono⟩) fun m hm => ?_
      have hmi := hm.ivd hx1 hy1 hb1 ow (by decide)
      skip
      have key : ∀ m : D, MulIP C CI x1 y1 (rat C n d) m → IvD C CI (200 + 200) m → O2 (cx0 P w K mg base ["weights", "intervals", "total", "weight", "interval"] "weighted_interval" (defScope sWei) f cdv Ar outer sh Hp0 xE) Fr (.bin .Add) (.d (ivl CI x0 y0)) (.d m) (fun o r => ∃ t : D, r = .d t ∧ ∃ z z' : D, m = ivl CI z z' ∧ AddIP C CI x0 y0 z z' t ∧ IvD C CI (402 * (i + 1) + 2) t) o := by
        intro m hm hmi
        cases hmi with
        | @mk z z' hz hz' hzb =>
          have b0 : 402 * i + 2 ≤ 900 := by omega
          refine O2.dB tI.sf dn_add MIAdd (hr.mono (by decide)) ⟨_, _, rfl, .mk (hx0.mono b0) (hy0.mono b0) hb0, .mk hz.mono hz'.mono hzb⟩ fun r hr' => ?_
          have hr' : AddIP C CI x0 y0 z z' r := hr'
          exact ⟨r, rfl, z, z', rfl, hr', (hr'.ivd hx0 hy0 hb0 hz hz' hzb).mono (by omega)⟩
      constructor
      intro ls H uu vv s0 rx ry Qv kk
      refine (key m hm hmi) ls H uu vv s0 rx ry Qv fun ls' own' H' r v l s r' ⟨t', e, z, z', em, had, hiv⟩ => ?_
      subst e
      refine kk ls' own' H' _ v l s r' ?_
      refine W.nil ⟨t', _, _, rfl, hiv, ?_⟩
      rw [List.take_succ, List.take_succ, hx, hy]
      subst em
      exact .snoc hwi hm had
    · rintro o ρ ⟨t, u, v, rfl, _, hwi⟩
      rw [List.take_length] at hwi
      rw [hl, List.take_length] at hwi
      exact ⟨t, _, _, rfl, hwi⟩
  rintro o ρ ⟨t, u, v, rfl, hwi⟩
  refine W.cons ?_
  refine W1.ret ?_
  refine E.var 2 rfl ?_
  exact ⟨_, rfl, _, ⟨_, _, rfl, hn⟩, hwi⟩
end

/-- the script's numbers as the drawing defs hold them -/
def PoolI (ps : List D) : Prop := ∃ (gs ss : List Int) (n : Int), ps = [.lst (gs.map D.int), .lst (ss.map D.int), .int n] ∧ (∀ g ∈ gs, 0 ≤ g) ∧ (∀ s ∈ ss, 0 ≤ s) ∧ 0 < ss.length ∧ gs.length ≤ 100 ∧ ss.length ≤ 100 ∧ 0 ≤ n
def preTake : List D → Prop := fun ds => ∃ m : Int, ds = [.int m] ∧ m.natAbs < 2 ^ 1000
def postTake : List D → D → Prop := fun ds d => ∃ m r : Int, ds = [.int m] ∧ d = .int r ∧ 0 ≤ r ∧ (2 ≤ m → r < m) ∧ (m < 2 → r = 0)
abbrev sTake : Stmt := top 29
theorem scTake : FnScope ["pool", "most", "value", "rest", "count", "seed", "mixed"] ["pool", "most"] (defScope sTake) := ⟨rfl, rfl, rfl, by decide +kernel, rfl, by decide +kernel, by decide +kernel⟩
section
variable {P : Program} {w : World} {K : PySem.W.Frag} {mg : Str → Option Value} {base : Heap}
set_option maxHeartbeats 1000000 in
theorem ok_take {f : Addr} {fd : FuncData} (F : Fun K "_law_take" "_law_take" sTake f fd) (B : Bl mg) : FnOk P w K mg base CX0 1 f fd ["pool", "most"] (spP K PoolI preTake postTake) := by
  refine ok_P F scTake (fun ds ⟨m, e, _⟩ => by rw [e]; rfl) fun cdv Ar outer sh Hp0 xE Fr ds hr ⟨m, e, hm⟩ => ?_
  subst e
  have nd := scTake.nd
  show W _ _ _ _ _ [some (.c 0), some (.d (.int m)), none, none, none, none, none]
  refine W.openC 0 rfl fun ps ⟨gs, ss, n, e, hg, hs, h0, hgl, hsl, hn⟩ => ?_
  subst e
  have hp : PoolI [.lst (gs.map D.int), .lst (ss.map D.int), .int n] := ⟨gs, ss, n, rfl, hg, hs, h0, hgl, hsl, hn⟩
  refine W.cons ?_
  refine W1.iff ?_
  refine T.cmp ?_
  refine E.var 1 rfl ?_
  refine E.int ?_
  walk_at "o"
  refine ⟨_, rfl, ?_⟩
  refine ifd (fun h => ?_) (fun h2 => ?_)
  · skip
    refine W.cons ?_
    refine W1.ret ?_
    refine E.int ?_
    exact ⟨.inr ⟨_, rfl, hp⟩, _, rfl, m, 0, rfl, rfl, by omega, fun z => by omega, fun _ => rfl⟩
  refine W.nil ?_
  have h0m : (0 : Int) < m := by omega
  refine W.cons ?_
  refine W1.iff ?_
  refine T.cmp ?_
  refine E.callB B.len bt_len ?_
  refine A.cons ?_
  refine E.ix ?_
  refine E.var 0 rfl ?_
  refine E.int ?_
  walk_at "ix"
  refine A.nil ?_
  walk_at "cl"
  refine E.int ?_
  walk_at "o"
  refine ⟨_, rfl, ?_⟩
  refine ifd (fun h => ?_) (fun h => ?_)
  · obtain ⟨g, gs, rfl⟩ : ∃ g r, gs = g :: r := by cases gs with
      | nil => simp at h
      | cons g r => exact ⟨g, r, rfl⟩
    have e1 : DL.cutD (D.int g :: gs.map D.int) (some 1) none = gs.map D.int := cut1
    have hdv : CDivW g m := wide_div (by omega) hm (by decide) (by decide)
    have hg0 : 0 ≤ g := hg g (List.mem_cons_self ..)
    have hq : 0 ≤ g / m := Int.ediv_nonneg hg0 (by omega)
    have hr0 := Int.emod_nonneg g (show m ≠ 0 by omega)
    have hr1 := Int.emod_lt_of_pos g h0m
    have hlen : gs.length ≤ 99 := by simpa using hgl
    have hpA : PoolI [.lst (gs.map D.int), .lst (ss.map D.int), .int n] := ⟨gs, ss, n, rfl, fun x hx => hg x (List.mem_cons_of_mem _ hx), hs, h0, by omega, hsl, hn⟩
    have hpB : PoolI [.lst ((g / m :: gs).map D.int), .lst (ss.map D.int), .int n] := ⟨g / m :: gs, ss, n, rfl, fun x hx => by
      rcases List.mem_cons.mp hx with z | z
      · rw [z]; exact hq
      · exact hg x (List.mem_cons_of_mem _ z), hs, h0, by simpa using hgl, hsl, hn⟩
    refine W.cons ?_
    refine W1.set 2 ?_ nd
    refine E.ix ?_
    refine E.ix ?_
    refine E.var 0 rfl ?_
    refine E.int ?_
    walk_at "ix"
    refine E.int ?_
    walk_at "ix"
    walk_at "n"
    refine W.cons ?_
    refine W1.set 3 ?_ nd
    refine E.callTy B.list bt_list ?_
    refine A.cons ?_
    refine E.slice ?_
    refine E.ix ?_
    refine E.var 0 rfl ?_
    refine E.int ?_
    walk_at "ix"
    refine PoE.some ?_
    refine E.int ?_
    refine ⟨_, rfl, ?_⟩
    refine PoE.none ?_
    walk_at "sl"
    refine A.nil ?_
    walk_at "cl"
    walk_at "n"
    rw [show (List.map D.int (g :: gs)) = D.int g :: gs.map D.int from rfl, e1]
    refine W.cons ?_
    refine W1.iff ?_
    refine T.cmp ?_
    refine E.bin ?_
    refine E.var 2 rfl ?_
    refine E.var 1 rfl ?_
    walk_at "o"
    refine E.int ?_
    walk_at "o"
    refine ⟨_, rfl, ?_⟩
    refine ifd (fun h => ?_) (fun h => ?_)
    · skip
      refine W.cons ?_
      refine W1.set 3 ?_ nd
      refine E.bin ?_
      refine E.lst ?_
      refine A.cons ?_
      refine E.bin ?_
      refine E.var 2 rfl ?_
      refine E.var 1 rfl ?_
      walk_at "o"
      refine A.nil ?_
      walk_at "disp"
      refine E.var 3 rfl ?_
      walk_at "o"
      walk_at "n"
      refine W.nil ?_
      refine W.cons ?_
      refine W1.setIx ?_
      refine E.var 3 rfl ?_
      refine E.var 0 rfl ?_
      refine E.int ?_
      walk_at "six"
      refine W.cons ?_
      refine W1.ret ?_
      refine E.bin ?_
      refine E.callTy B.int bt_int ?_
      refine A.cons ?_
      refine E.var 2 rfl ?_
      refine A.nil ?_
      walk_at "cl"
      refine E.var 1 rfl ?_
      walk_at "o"
      exact ⟨.inr ⟨_, rfl, hpB⟩, _, rfl, m, _, rfl, rfl, hr0, fun _ => hr1, fun z => absurd z h2⟩
    · refine W.nil ?_
      refine W.cons ?_
      refine W1.setIx ?_
      refine E.var 3 rfl ?_
      refine E.var 0 rfl ?_
      refine E.int ?_
      walk_at "six"
      refine W.cons ?_
      refine W1.ret ?_
      refine E.bin ?_
      refine E.callTy B.int bt_int ?_
      refine A.cons ?_
      refine E.var 2 rfl ?_
      refine A.nil ?_
      walk_at "cl"
      refine E.var 1 rfl ?_
      walk_at "o"
      exact ⟨.inr ⟨_, rfl, hpA⟩, _, rfl, m, _, rfl, rfl, hr0, fun _ => hr1, fun z => absurd z h2⟩
  · refine W.nil ?_
    have hss : (0 : Int) < ((ss.map D.int).length : Int) := by rw [List.length_map]; omega
    obtain ⟨s, hi, hs0⟩ : ∃ s : Int, atI (ss.map D.int) (n / 4 % ((ss.map D.int).length : Int)) = some (D.int s) ∧ 0 ≤ s := by
      have h1 := Int.emod_nonneg (n / 4) (show ((ss.map D.int).length : Int) ≠ 0 by omega)
      have h2 := Int.emod_lt_of_pos (n / 4) hss
      generalize n / 4 % ((ss.map D.int).length : Int) = j at h1 h2
      obtain ⟨j, rfl⟩ := Int.eq_ofNat_of_zero_le h1
      have hj : j < ss.length := by rw [List.length_map] at h2; omega
      exact ⟨ss[j], atI_nat (by rw [List.getElem?_map, List.getElem?_eq_getElem hj]; rfl), hs _ (List.getElem_mem hj)⟩
    have hpC : PoolI [.lst (gs.map D.int), .lst (ss.map D.int), .int (n + 1)] := ⟨gs, ss, n + 1, rfl, hg, hs, h0, hgl, hsl, by omega⟩
    refine W.cons ?_
    refine W1.set 4 ?_ nd
    refine E.ix ?_
    refine E.var 0 rfl ?_
    refine E.int ?_
    walk_at "ix"
    walk_at "n"
    refine W.cons ?_
    refine W1.setIx ?_
    refine E.bin ?_
    refine E.var 4 rfl ?_
    refine E.int ?_
    walk_at "o"
    refine E.var 0 rfl ?_
    refine E.int ?_
    walk_at "six"
    refine W.cons ?_
    refine W1.set 5 ?_ nd
    refine E.ix ?_
    refine E.ix ?_
    refine E.var 0 rfl ?_
    refine E.int ?_
    walk_at "ix"
    refine E.bin ?_
    refine E.callTy B.int bt_int ?_
    refine A.cons ?_
    refine E.bin ?_
    refine E.var 4 rfl ?_
    refine E.int ?_
    walk_at "o"
    refine A.nil ?_
    walk_at "cl"
    refine E.callB B.len bt_len ?_
    refine A.cons ?_
    refine E.ix ?_
    refine E.var 0 rfl ?_
    refine E.int ?_
    walk_at "ix"
    refine A.nil ?_
    walk_at "cl"
    walk_at "o"
    walk_at "ix"
    walk_at "n"
    refine W.cons ?_
    refine W1.set 6 ?_ nd
    refine E.bin ?_
    refine E.callTy B.int bt_int ?_
    refine A.cons ?_
    refine E.bin ?_
    refine E.bin ?_
    refine E.bin ?_
    refine E.var 5 rfl ?_
    refine E.int ?_
    walk_at "o"
    refine E.bin ?_
    refine E.var 4 rfl ?_
    refine E.int ?_
    walk_at "o"
    walk_at "o"
    refine E.int ?_
    walk_at "o"
    refine A.nil ?_
    walk_at "cl"
    refine E.int ?_
    walk_at "o"
    walk_at "n"
    refine W.cons ?_
    refine W1.set 6 ?_ nd
    refine E.bin ?_
    refine E.callTy B.int bt_int ?_
    refine A.cons ?_
    refine E.bin ?_
    refine E.bin ?_
    refine E.bin ?_
    refine E.var 6 rfl ?_
    refine E.var 6 rfl ?_
    walk_at "o"
    refine E.bin ?_
    refine E.var 4 rfl ?_
    refine E.int ?_
    walk_at "o"
    walk_at "o"
    refine E.int ?_
    walk_at "o"
    refine A.nil ?_
    walk_at "cl"
    refine E.int ?_
    walk_at "o"
    walk_at "n"
    refine W.cons ?_
    refine W1.set 6 ?_ nd
    refine E.bin ?_
    refine E.callTy B.int bt_int ?_
    refine A.cons ?_
    refine E.bin ?_
    refine E.bin ?_
    refine E.bin ?_
    refine E.var 6 rfl ?_
    refine E.var 6 rfl ?_
    walk_at "o"
    refine E.var 5 rfl ?_
    walk_at "o"
    refine E.int ?_
    walk_at "o"
    refine A.nil ?_
    walk_at "cl"
    refine E.int ?_
    walk_at "o"
    walk_at "n"
    refine W.cons ?_
    refine W1.ret ?_
    refine E.bin ?_
    refine E.callTy B.int bt_int ?_
    refine A.cons ?_
    refine E.bin ?_
    refine E.var 6 rfl ?_
    refine E.int ?_
    walk_at "o"
    refine A.nil ?_
    walk_at "cl"
    refine E.var 1 rfl ?_
    walk_at "o"
    have fin : ∀ x : Int, 0 ≤ x % m ∧ (2 ≤ m → x % m < m) := fun x => ⟨Int.emod_nonneg x (by omega), fun _ => Int.emod_lt_of_pos x h0m⟩
    exact ⟨.inr ⟨_, rfl, hpC⟩, _, rfl, m, _, rfl, rfl, (fin _).1, (fin _).2, fun z => absurd z h2⟩
end

section
variable {P : Program} {w : World} {K : PySem.W.Frag} {mg : Str → Option Value} {base : Heap} {C : Addr} {f : Addr} {fd : FuncData}
abbrev intL (ns : List Int) : List R := (ns.map D.int).map R.d
def preP : List D → Prop := fun ds => ∃ ns : List Int, ds = [.rol (ns.map D.int)] ∧ ns.length ≤ 63
theorem ints_snoc {ns : List Int} {n : Int} : intL ns ++ [.d (.int n)] = intL (ns ++ [n]) := by simp [intL]
abbrev sPool : Stmt := top 28
theorem scPool : FnScope ["script", "greats", "smalls", "cell"] ["script"] (defScope sPool) := ⟨rfl, rfl, rfl, by decide +kernel, rfl, by decide +kernel, by decide +kernel⟩
theorem ok_pool (F : Df K mg "_law_pool" sPool ["script"] f fd) (B : Bl mg) : FnOk P w K mg base CX0 1 f fd ["script"] (spN K preP fun _ => PoolI) := by
  refine ok_N F.fn scPool (fun ds ⟨_, e, _⟩ => by rw [e]; rfl) fun cdv Ar outer sh Hp0 xE Fr ds hr hm ⟨ns, e, hz⟩ => ?_
  have nd := scPool.nd
  subst e
  show W _ _ _ _ _ [some (.d (.rol (ns.map D.int))), none, none, none]
  refine W.cons ?_
  refine W1.set 1 ?_ nd
  refine E.lstC ?_
  refine A.nil ?_
  walk_at "dispC"
  walk_at "n"
  refine W.cons ?_
  refine W1.set 2 ?_ nd
  refine E.lstC ?_
  refine A.nil ?_
  walk_at "dispC"
  walk_at "n"
  refine W.cut (fun o r => ∃ gs ss c, o = [.lst (intL gs), .lst (intL ss)] ∧ r = [some (.d (.rol (ns.map D.int))), some (.c 0), some (.c 1), c] ∧ (∀ g ∈ gs, 0 ≤ g) ∧ (∀ s ∈ ss, 0 ≤ s) ∧ gs.length + ss.length = ns.length) ?_ ?_
  · refine W1.forL (fun i o r => ∃ gs ss c, o = [.lst (intL gs), .lst (intL ss)] ∧ r = [some (.d (.rol (ns.map D.int))), some (.c 0), some (.c 1), c] ∧ (∀ g ∈ gs, 0 ≤ g) ∧ (∀ s ∈ ss, 0 ≤ s) ∧ gs.length + ss.length = i) rfl PassesOwn.never ?_
    refine E.var 0 rfl ?_
    refine ⟨_, .inr rfl, ⟨[], [], _, rfl, rfl, by simp, by simp, rfl⟩, ?_, ?_⟩
    · rintro i d o ρ hd ⟨gs, ss, c, rfl, rfl, hg, hs, hl⟩
      have hi : i < ns.length := by have := (List.getElem?_eq_some_iff.mp hd).1; simpa using this
      rw [List.getElem?_map, List.getElem?_eq_getElem hi] at hd
      cases hd
      have hlg : gs.length < 63 ∧ ss.length < 63 := by omega
      generalize ns[i] = x
      have hx : (0 : Int) ≤ (x.natAbs : Int) := by omega
      refine Tg.name 3 ?_ nd
      refine W.cons ?_
      refine W1.iff ?_
      refine T.cmp ?_
      refine E.callB B.abs bt_abs ?_
      refine A.cons ?_
      refine E.callTy B.int bt_int ?_
      refine A.cons ?_
      refine E.var 3 rfl ?_
      refine A.nil ?_
      walk_at "cl"
      refine A.nil ?_
      walk_at "cl"
      refine E.bin ?_
      refine E.int ?_
      refine E.int ?_
      walk_at "o"
      walk_at "o"
      refine ⟨_, rfl, ?_⟩
      refine ifd (fun h => ?_) (fun h => ?_)
      · skip
        refine W.cons ?_
        refine W1.expr ?_
        refine E.append ?_
        refine E.var 1 rfl ?_
        refine ⟨_, rfl, ?_, ?_⟩; rotate_left; exact ⟨_, rfl⟩
        refine E.callB B.abs bt_abs ?_
        refine A.cons ?_
        refine E.callTy B.int bt_int ?_
        refine A.cons ?_
        refine E.var 3 rfl ?_
        refine A.nil ?_
        walk_at "cl"
        refine A.nil ?_
        walk_at "cl"
        walk_at "app"
        refine W.nil (W.nil ⟨gs ++ [(x.natAbs : Int)], ss, _, by rw [ints_snoc]; rfl, rfl, ?_, hs, by simp; omega⟩)
        intro g hg'
        rcases List.mem_append.mp hg' with z | z
        · exact hg g z
        · rw [List.mem_singleton.mp z]; exact hx
      · skip
        refine W.cons ?_
        refine W1.expr ?_
        refine E.append ?_
        refine E.var 2 rfl ?_
        refine ⟨_, rfl, ?_, ?_⟩; rotate_left; exact ⟨_, rfl⟩
        refine E.callB B.abs bt_abs ?_
        refine A.cons ?_
        refine E.callTy B.int bt_int ?_
        refine A.cons ?_
        refine E.var 3 rfl ?_
        refine A.nil ?_
        walk_at "cl"
        refine A.nil ?_
        walk_at "cl"
        walk_at "app"
        refine W.nil (W.nil ⟨gs, ss ++ [(x.natAbs : Int)], _, by rw [ints_snoc]; rfl, rfl, hg, ?_, by simp; omega⟩)
        intro g hg'
        rcases List.mem_append.mp hg' with z | z
        · exact hs g z
        · rw [List.mem_singleton.mp z]; exact hx
    · rintro o ρ ⟨gs, ss, c, rfl, rfl, hg, hs, hl⟩
      exact ⟨gs, ss, c, rfl, rfl, hg, hs, by rw [hl, List.length_map]⟩
  rintro o ρ ⟨gs, ss, c, rfl, rfl, hg, hs, hl⟩
  have hl1 : gs.length ≤ 63 ∧ ss.length ≤ 63 := by omega
  refine W.cut (fun o r => ∃ gs ss c, o = [.lst (intL gs), .lst (intL ss)] ∧ r = [some (.d (.rol (ns.map D.int))), some (.c 0), some (.c 1), c] ∧ (∀ g ∈ gs, 0 ≤ g) ∧ (∀ s ∈ ss, 0 ≤ s) ∧ 0 < ss.length ∧ gs.length ≤ 64 ∧ ss.length ≤ 64) ?_ ?_
  · have e : ∀ X : Nat, X = X := fun _ => rfl
    refine W1.iff ?_
    refine T.cmp ?_
    refine E.callB B.len bt_len ?_
    refine A.cons ?_
    refine E.var 2 rfl ?_
    refine A.nil ?_
    walk_at "cl"
    refine E.int ?_
    walk_at "o"
    refine ⟨_, rfl, ?_⟩
    refine ifd (fun h => ?_) (fun h => ?_)
    · skip
      refine W.cons ?_
      refine W1.expr ?_
      refine E.append ?_
      refine E.var 2 rfl ?_
      refine ⟨_, rfl, ?_, ?_⟩; rotate_left; exact ⟨_, rfl⟩
      refine E.callB B.len bt_len ?_
      refine A.cons ?_
      refine E.var 1 rfl ?_
      refine A.nil ?_
      walk_at "cl"
      walk_at "app"
      refine W.nil ⟨gs, ss ++ [_], _, by rw [ints_snoc]; rfl, rfl, hg, ?_, by simp, by omega, by simp; omega⟩
      intro g hg'
      rcases List.mem_append.mp hg' with z | z
      · exact hs g z
      · rw [List.mem_singleton.mp z]; omega
    · refine W.nil ⟨gs, ss, _, rfl, rfl, hg, hs, ?_, by omega, by omega⟩
      simp at h
      exact List.length_pos_iff.mpr h
  rintro o ρ ⟨gs, ss, c, rfl, rfl, hg, hs, h0, h1, h2⟩
  refine W.freeze 0 rfl (W.freeze 1 rfl ?_)
  show W _ _ _ _ [.gone, .gone] [some (.d (.rol (ns.map D.int))), some (.d (.lst (gs.map D.int))), some (.d (.lst (ss.map D.int))), _]
  refine W.cons ?_
  refine W1.ret ?_
  refine E.lstC ?_
  refine A.cons ?_
  refine E.var 1 rfl ?_
  refine A.cons ?_
  refine E.var 2 rfl ?_
  refine A.cons ?_
  refine E.int ?_
  refine A.nil ?_
  walk_at "dispC"
  exact ⟨2, [.lst (gs.map D.int), .lst (ss.map D.int), .int 0], rfl, rfl, gs, ss, 0, rfl, hg, hs, h0, by omega, by omega, by omega⟩
abbrev sInteger : Stmt := top 36
theorem scInteger : FnScope ["thing"] ["thing"] (defScope sInteger) := ⟨rfl, rfl, rfl, by decide +kernel, rfl, by decide +kernel, by decide +kernel⟩
theorem ok_integer (F : Df K mg "_law_integer" sInteger ["thing"] f fd) (B : Bl mg) (tR : RatT K mg C) : FnOk P w K mg base CX0 1 f fd ["thing"] (spF K (fun ds => ∃ i, ds = [.int i]) fun _ r => r = .bl true) := by
  refine ok_F F.fn scInteger (fun ds ⟨_, e⟩ => by rw [e]; rfl) fun cdv Ar outer sh Hp0 xE Fr ds hr hm ⟨i, e⟩ => ?_
  have nd := scInteger.nd
  have q4 := tR.kII
  have q5 := tR.kIB
  subst e
  show W _ _ _ _ _ [some (.d (.int i))]
  refine W.cons ?_
  refine W1.ret ?_
  refine E.and ?_
  refine E.callB B.isinstance bt_isinstance ?_
  refine A.cons ?_
  refine E.var 0 rfl ?_
  refine A.cons ?_
  refine E.bty B.int bt_int ?_
  refine A.nil ?_
  walk_at "cl"
  refine ⟨_, rfl, ?_⟩
  refine iteT ?_
  refine E.one ?_
  refine E.not ?_
  refine E.callB B.isinstance bt_isinstance ?_
  refine A.cons ?_
  refine E.var 0 rfl ?_
  refine A.cons ?_
  refine E.bty B.bool bt_bool ?_
  refine A.nil ?_
  walk_at "cl"
  refine ⟨_, rfl, ?_⟩
  exact ⟨_, rfl, rfl⟩
abbrev sCommon : Stmt := top 31
theorem scCommon : FnScope ["one", "two", "k", "rest"] ["one", "two"] (defScope sCommon) := ⟨rfl, rfl, rfl, by decide +kernel, rfl, by decide +kernel, by decide +kernel⟩
def preCom : List D → Prop := fun ds => ∃ a b : Int, ds = [.int a, .int b] ∧ Bd 4000 b
def postCom : List D → D → Prop := fun ds r => r = .int ((Nat.gcd (nu (a0 ds)).natAbs (nu (a1 ds)).natAbs : Nat) : Int)
theorem ok_common (F : Df K mg "_law_common" sCommon ["one", "two"] f fd) (B : Bl mg) : FnOk P w K mg base CX0 1 f fd ["one", "two"] (spF K preCom postCom) := by
  refine ok_F F.fn scCommon (fun ds ⟨_, _, e, _⟩ => by rw [e]; rfl) fun cdv Ar outer sh Hp0 xE Fr ds hr hm ⟨a, b, e, hb⟩ => ?_
  have nd := scCommon.nd
  subst e
  show W _ _ _ _ _ [some (.d (.int a)), some (.d (.int b)), none, none]
  refine W.cons ?_
  refine W1.set 0 ?_ nd
  refine E.callB B.abs bt_abs ?_
  refine A.cons ?_
  refine E.var 0 rfl ?_
  refine A.nil ?_
  walk_at "cl"
  walk_at "n"
  refine W.cons ?_
  refine W1.set 1 ?_ nd
  refine E.callB B.abs bt_abs ?_
  refine A.cons ?_
  refine E.var 1 rfl ?_
  refine A.nil ?_
  walk_at "cl"
  walk_at "n"
  have hB := bits_le (Bd.abs hb)
  have hB2 := bits_lt (x := (b.natAbs : Int))
  rw [Int.natAbs_natCast] at hB2
  refine W.cut (fun o r => o = [] ∧ ∃ z y u v, r = [some (.d (.int z)), y, u, v] ∧ z = ((Nat.gcd a.natAbs b.natAbs : Nat) : Int)) ?_ ?_
  · refine W1.forR (fun i o r => o = [] ∧ ∃ (x y : Nat) (u v : Option R), r = [some (.d (.int x)), some (.d (.int y)), u, v] ∧ Eu (Nat.gcd a.natAbs b.natAbs) (Builtin.Int.intBits (b.natAbs : Int)) i x y ∧ (i = 0 → y < 2 ^ (Builtin.Int.intBits (b.natAbs : Int)))) B.range rfl PassesOwn.never ?_
    refine E.bin ?_
    refine E.bin ?_
    refine E.int ?_
    refine E.bits ?_
    refine E.var 1 rfl ?_
    refine ⟨_, rfl, ?_⟩
    walk_at "o"
    refine E.int ?_
    walk_at "o"
    generalize Builtin.Int.intBits (b.natAbs : Int) = n at *
    have en : (2 * (n : Int) + 2).toNat = 2 * n + 2 := by omega
    refine ⟨_, rfl, ⟨by omega, by omega⟩, ⟨rfl, a.natAbs, b.natAbs, _, _, rfl, ⟨rfl, .inl rfl⟩, fun _ => hB2⟩, ?_, ?_⟩
    · rintro i o ρ hi ⟨rfl, x, y, u, v, rfl, eu, h0⟩
      refine Tg.name 2 ?_ nd
      refine W.cons ?_
      refine W1.iff ?_
      refine T.cmp ?_
      refine E.var 1 rfl ?_
      refine E.int ?_
      walk_at "o"
      refine ⟨_, rfl, ?_⟩
      refine ifd (fun h => ?_) (fun h => ?_)
      · have : y = 0 := by omega
        subst this
        refine W.cons ?_
        refine W1.ret ?_
        refine E.var 0 rfl ?_
        exact ⟨_, rfl, by rw [eu.done]; rfl⟩
      refine W.nil ?_
      refine W.cons ?_
      refine W1.set 3 ?_ nd
      refine E.bin ?_
      refine E.callTy B.int bt_int ?_
      refine A.cons ?_
      refine E.var 0 rfl ?_
      refine A.nil ?_
      walk_at "cl"
      refine E.var 1 rfl ?_
      walk_at "o"
      walk_at "n"
      refine W.cons ?_
      refine W1.set 0 ?_ nd
      refine E.var 1 rfl ?_
      walk_at "n"
      refine W.cons ?_
      refine W1.set 1 ?_ nd
      refine E.var 3 rfl ?_
      walk_at "n"
      exact W.nil ⟨rfl, y, x % y, _, _, rfl, eu.step (by omega) h0, fun z => by omega⟩
    · rintro o ρ ⟨rfl, x, y, u, v, rfl, eu, _⟩
      rw [en] at eu
      exact ⟨rfl, _, _, _, _, rfl, by rw [eu.last]⟩
  rintro o ρ ⟨rfl, z, y, u, v, rfl, e⟩
  refine W.cons ?_
  refine W1.ret ?_
  refine E.var 0 rfl ?_
  exact ⟨_, rfl, by rw [e]; rfl⟩
end

/-! ### ends as the law's defs hold them -/
abbrev En := Option (Int × Int)
abbrev dN (a b : Int) : D := .tup [.int a, .int b]
def dE : En → D
  | none => .non
  | some (a, b) => dN a b
abbrev dI (l h : En) : D := .tup [dE l, dE h]
inductive OkE (k : Nat) : En → Prop where
  | non : OkE k none
  | num {a b : Int} (h : OkK k a b) : OkE k (some (a, b))
theorem OkE.mono {k j : Nat} {e : En} (h : OkE k e) (hk : k ≤ j := by decide) : OkE j e := by
  cases h with
  | non => exact .non
  | num h => exact .num (h.mono hk)
/-- the told end is the due one -/
inductive TE (C : Addr) : D → En → Prop where
  | non : TE C .non none
  | rat {a b p q : Int} (h : Nrm a b p q) : TE C (rat C p q) (some (a, b))
theorem TE.endD {C : Addr} {k : Nat} {x : D} {e : En} (h : TE C x e) (o : OkE k e) : EndD C k x := by
  cases h with
  | non => exact .non
  | rat h => cases o with
    | num o =>
      have l := h.le (Int.ne_of_gt o.1)
      exact .rat ⟨h.1, o.2.1.le l.1, o.2.2.le l.2⟩
def lessE : En → En → Bool
  | some (a, b), some (c, e) => decide (a * e < c * b)
  | _, _ => false
def sameE : En → En → Bool
  | some (a, b), some (c, e) => decide (a * e = c * b)
  | none, none => true
  | _, _ => false
theorem TE.bey {C : Addr} {k j : Nat} {x y : D} {e f : En} (h1 : TE C x e) (h2 : TE C y f) (o1 : OkE k e) (o2 : OkE j f) : bey x y = lessE f e := by
  cases h1 with
  | non => cases f with
    | none => rfl
    | some v => obtain ⟨c, e⟩ := v; rfl
  | rat h1 => cases h2 with
    | non => exact bey_nr
    | rat h2 => cases o1 with
      | num o1 => cases o2 with
        | num o2 =>
          rw [bey_rr]
          exact decide_eq_decide.mpr (cmp_conv h1 h2 o1.1 o2.1)
theorem TE.eqE {C : Addr} {k j : Nat} {x y : D} {e f : En} (h1 : TE C x e) (h2 : TE C y f) (o1 : OkE k e) (o2 : OkE j f) : eqE x y = sameE e f := by
  cases h1 with
  | non => cases h2 with
    | non => rfl
    | rat h2 => rfl
  | rat h1 => cases h2 with
    | non => rfl
    | rat h2 => cases o1 with
      | num o1 => cases o2 with
        | num o2 =>
          have z := nrm_eq h1 h2 (Int.ne_of_gt o1.1) (Int.ne_of_gt o2.1)
          show (true && (decide _ && decide _)) = decide _
          rw [Bool.true_and, ← Bool.decide_and]
          exact decide_eq_decide.mpr z
theorem isNon_dE {e : En} : isNon (dE e) = e.isNone := by
  cases e with
  | none => rfl
  | some v => obtain ⟨a, b⟩ := v; rfl

section
variable {P : Program} {w : World} {K : PySem.W.Frag} {mg : Str → Option Value} {base : Heap} {C CI : Addr} {f : Addr} {fd : FuncData}
def preNN (k : Nat) : List D → Prop := fun ds => ∃ a b c e, ds = [dN a b, dN c e] ∧ OkK k a b ∧ OkK k c e
abbrev sLess : Stmt := top 30
theorem scLess : FnScope ["one", "two"] ["one", "two"] (defScope sLess) := ⟨rfl, rfl, rfl, by decide +kernel, rfl, by decide +kernel, by decide +kernel⟩
theorem ok_less (F : Df K mg "_law_less" sLess ["one", "two"] f fd) : FnOk P w K mg base CX0 1 f fd ["one", "two"] (spF K (preNN 4000) fun ds r => ∀ a b c e, ds = [dN a b, dN c e] → r = .bl (decide (a * e < c * b))) := by
  refine ok_F F.fn scLess (fun ds ⟨_, _, _, _, e, _⟩ => by rw [e]; rfl) fun cdv Ar outer sh Hp0 xE Fr ds hr hm ⟨a, b, c, e, eq, ⟨hb, bA, bB⟩, ⟨he, bC, bE⟩⟩ => ?_
  have nd := scLess.nd
  subst eq
  show W _ _ _ _ _ [some (.d (dN a b)), some (.d (dN c e))]
  refine W.cons ?_
  refine W1.ret ?_
  refine E.cmp ?_
  refine E.bin ?_
  refine E.ix ?_
  refine E.var 0 rfl ?_
  refine E.int ?_
  walk_at "ix"
  refine E.ix ?_
  refine E.var 1 rfl ?_
  refine E.int ?_
  walk_at "ix"
  walk_at "o"
  refine E.bin ?_
  refine E.ix ?_
  refine E.var 1 rfl ?_
  refine E.int ?_
  walk_at "ix"
  refine E.ix ?_
  refine E.var 0 rfl ?_
  refine E.int ?_
  walk_at "ix"
  walk_at "o"
  walk_at "o"
  exact ⟨_, rfl, fun a' b' c' e' z => by cases z; rfl⟩
abbrev sEqual : Stmt := top 38
theorem scEqual : FnScope ["one", "two"] ["one", "two"] (defScope sEqual) := ⟨rfl, rfl, rfl, by decide +kernel, rfl, by decide +kernel, by decide +kernel⟩
theorem ok_equal (F : Df K mg "_law_equal" sEqual ["one", "two"] f fd) : FnOk P w K mg base CX0 1 f fd ["one", "two"] (spF K (preNN 4000) fun ds r => ∀ a b c e, ds = [dN a b, dN c e] → r = .bl (decide (a * e = c * b))) := by
  refine ok_F F.fn scEqual (fun ds ⟨_, _, _, _, e, _⟩ => by rw [e]; rfl) fun cdv Ar outer sh Hp0 xE Fr ds hr hm ⟨a, b, c, e, eq, ⟨hb, bA, bB⟩, ⟨he, bC, bE⟩⟩ => ?_
  have nd := scEqual.nd
  subst eq
  show W _ _ _ _ _ [some (.d (dN a b)), some (.d (dN c e))]
  refine W.cons ?_
  refine W1.ret ?_
  refine E.cmp ?_
  refine E.bin ?_
  refine E.ix ?_
  refine E.var 0 rfl ?_
  refine E.int ?_
  walk_at "ix"
  refine E.ix ?_
  refine E.var 1 rfl ?_
  refine E.int ?_
  walk_at "ix"
  walk_at "o"
  refine E.bin ?_
  refine E.ix ?_
  refine E.var 1 rfl ?_
  refine E.int ?_
  walk_at "ix"
  refine E.ix ?_
  refine E.var 0 rfl ?_
  refine E.int ?_
  walk_at "ix"
  walk_at "o"
  walk_at "o"
  exact ⟨_, rfl, fun a' b' c' e' z => by cases z; rfl⟩
abbrev KLess (P : Program) (w : World) (K : PySem.W.Frag) (mg : Str → Option Value) (base : Heap) : Prop := DOk P w K mg base CX0 "_law_less" 1 (spF K (preNN 4000) fun ds r => ∀ a b c e, ds = [dN a b, dN c e] → r = .bl (decide (a * e < c * b)))
abbrev KEqual (P : Program) (w : World) (K : PySem.W.Frag) (mg : Str → Option Value) (base : Heap) : Prop := DOk P w K mg base CX0 "_law_equal" 1 (spF K (preNN 4000) fun ds r => ∀ a b c e, ds = [dN a b, dN c e] → r = .bl (decide (a * e = c * b)))
abbrev KCom (P : Program) (w : World) (K : PySem.W.Frag) (mg : Str → Option Value) (base : Heap) : Prop := DOk P w K mg base CX0 "_law_common" 1 (spF K preCom postCom)
abbrev KInt (P : Program) (w : World) (K : PySem.W.Frag) (mg : Str → Option Value) (base : Heap) : Prop := DOk P w K mg base CX0 "_law_integer" 1 (spF K (fun ds => ∃ i, ds = [.int i]) fun _ r => r = .bl true)
abbrev sLow : Stmt := top 32
theorem scLow : FnScope ["one", "common"] ["one"] (defScope sLow) := ⟨rfl, rfl, rfl, by decide +kernel, rfl, by decide +kernel, by decide +kernel⟩
theorem ok_low (F : Df K mg "_law_low" sLow ["one"] f fd) (GCom : KCom P w K mg base) : FnOk P w K mg base CX0 2 f fd ["one"] (spF K (fun ds => ∃ a b, ds = [dN a b] ∧ OkK 4000 a b) fun ds r => ∀ a b, ds = [dN a b] → ∃ p q, r = dN p q ∧ Nrm a b p q) := by
  refine ok_F F.fn scLow (fun ds ⟨_, _, e, _⟩ => by rw [e]; rfl) fun cdv Ar outer sh Hp0 xE Fr ds hr hm ⟨a, b, eq, ⟨hb, bA, bB⟩⟩ => ?_
  have nd := scLow.nd
  subst eq
  show W _ _ _ _ _ [some (.d (dN a b)), none]
  refine W.cons ?_
  refine W1.iff ?_
  refine T.cmp ?_
  refine E.ix ?_
  refine E.var 0 rfl ?_
  refine E.int ?_
  walk_at "ix"
  refine E.int ?_
  walk_at "o"
  refine ⟨_, rfl, ?_⟩
  refine ifd (fun h => ?_) (fun h => W.nil ?_)
  · skip
    refine W.cons ?_
    refine W1.ret ?_
    refine E.tup ?_
    refine A.cons ?_
    refine E.int ?_
    refine A.cons ?_
    refine E.int ?_
    refine A.nil ?_
    walk_at "disp"
    exact ⟨_, rfl, fun a' b' z => by cases z; exact ⟨0, 1, rfl, by decide, by rw [h, Int.zero_mul, Int.zero_mul], rfl⟩⟩
  refine W.cons ?_
  refine W1.set 1 ?_ nd
  refine E.dcall GCom (hr.mono (by decide)) ?_
  refine A.cons ?_
  refine E.ix ?_
  refine E.var 0 rfl ?_
  refine E.int ?_
  walk_at "ix"
  refine A.cons ?_
  refine E.ix ?_
  refine E.var 0 rfl ?_
  refine E.int ?_
  walk_at "ix"
  refine A.nil ?_
  refine ⟨[.int _, .int _], rfl, ⟨_, _, rfl, bB⟩, ?_⟩
  rintro _ rfl
  walk_at "n"
  have hg : CDivA a ((Nat.gcd a.natAbs b.natAbs : Nat) : Int) := cdg (Int.ne_of_gt hb) (bB.mono (by decide))
  have hg2 : CDivA b ((Nat.gcd a.natAbs b.natAbs : Nat) : Int) := cdg (Int.ne_of_gt hb) (bB.mono (by decide))
  show W _ _ _ _ _ [some (.d (dN a b)), some (.d (.int ((Nat.gcd a.natAbs b.natAbs : Nat) : Int)))]
  refine W.cons ?_
  refine W1.ret ?_
  refine E.tup ?_
  refine A.cons ?_
  refine E.bin ?_
  refine E.ix ?_
  refine E.var 0 rfl ?_
  refine E.int ?_
  walk_at "ix"
  refine E.var 1 rfl ?_
  walk_at "o"
  refine A.cons ?_
  refine E.bin ?_
  refine E.ix ?_
  refine E.var 0 rfl ?_
  refine E.int ?_
  walk_at "ix"
  refine E.var 1 rfl ?_
  walk_at "o"
  refine A.nil ?_
  walk_at "disp"
  exact ⟨_, rfl, fun a' b' z => by cases z; exact ⟨_, _, rfl, nrm_pos hb⟩⟩
abbrev sPlus : Stmt := top 33
theorem scPlus : FnScope ["one", "two"] ["one", "two"] (defScope sPlus) := ⟨rfl, rfl, rfl, by decide +kernel, rfl, by decide +kernel, by decide +kernel⟩
def plusD (a b c e : Int) : Int × Int := if b = e then (a + c, b) else (a * e + c * b, b * e)
theorem ok_plus (F : Df K mg "_law_plus" sPlus ["one", "two"] f fd) : FnOk P w K mg base CX0 1 f fd ["one", "two"] (spF K (preNN 4000) fun ds r => ∀ a b c e, ds = [dN a b, dN c e] → r = dN (plusD a b c e).1 (plusD a b c e).2) := by
  refine ok_F F.fn scPlus (fun ds ⟨_, _, _, _, e, _⟩ => by rw [e]; rfl) fun cdv Ar outer sh Hp0 xE Fr ds hr hm ⟨a, b, c, e, eq, ⟨hb, bA, bB⟩, ⟨he, bC, bE⟩⟩ => ?_
  have nd := scPlus.nd
  subst eq
  show W _ _ _ _ _ [some (.d (dN a b)), some (.d (dN c e))]
  refine W.cons ?_
  refine W1.iff ?_
  refine T.cmp ?_
  refine E.ix ?_
  refine E.var 0 rfl ?_
  refine E.int ?_
  walk_at "ix"
  refine E.ix ?_
  refine E.var 1 rfl ?_
  refine E.int ?_
  walk_at "ix"
  walk_at "o"
  refine ⟨_, rfl, ?_⟩
  refine ifd (fun h => ?_) (fun h => W.nil ?_)
  · skip
    refine W.cons ?_
    refine W1.ret ?_
    refine E.tup ?_
    refine A.cons ?_
    refine E.bin ?_
    refine E.ix ?_
    refine E.var 0 rfl ?_
    refine E.int ?_
    walk_at "ix"
    refine E.ix ?_
    refine E.var 1 rfl ?_
    refine E.int ?_
    walk_at "ix"
    walk_at "o"
    refine A.cons ?_
    refine E.ix ?_
    refine E.var 0 rfl ?_
    refine E.int ?_
    walk_at "ix"
    refine A.nil ?_
    walk_at "disp"
    exact ⟨_, rfl, fun a' b' c' e' z => by cases z; rw [show plusD a b c e = (a + c, b) from if_pos h]⟩
  · skip
    refine W.cons ?_
    refine W1.ret ?_
    refine E.tup ?_
    refine A.cons ?_
    refine E.bin ?_
    refine E.bin ?_
    refine E.ix ?_
    refine E.var 0 rfl ?_
    refine E.int ?_
    walk_at "ix"
    refine E.ix ?_
    refine E.var 1 rfl ?_
    refine E.int ?_
    walk_at "ix"
    walk_at "o"
    refine E.bin ?_
    refine E.ix ?_
    refine E.var 1 rfl ?_
    refine E.int ?_
    walk_at "ix"
    refine E.ix ?_
    refine E.var 0 rfl ?_
    refine E.int ?_
    walk_at "ix"
    walk_at "o"
    walk_at "o"
    refine A.cons ?_
    refine E.bin ?_
    refine E.ix ?_
    refine E.var 0 rfl ?_
    refine E.int ?_
    walk_at "ix"
    refine E.ix ?_
    refine E.var 1 rfl ?_
    refine E.int ?_
    walk_at "ix"
    walk_at "o"
    refine A.nil ?_
    walk_at "disp"
    exact ⟨_, rfl, fun a' b' c' e' z => by cases z; rw [show plusD a b c e = (a * e + c * b, b * e) from if_neg h]⟩
abbrev sPair : Stmt := top 37
theorem scPair : FnScope ["number"] ["number"] (defScope sPair) := ⟨rfl, rfl, rfl, by decide +kernel, rfl, by decide +kernel, by decide +kernel⟩
theorem ok_pair (F : Df K mg "_law_pair" sPair ["number"] f fd) (B : Bl mg) (tR : RatT K mg C) (GInt : KInt P w K mg base) : FnOk P w K mg base CX0 2 f fd ["number"] (spF K (fun ds => ∃ n d, ds = [rat C n d] ∧ 0 < d) fun ds r => r = dN (nu (a0 ds)) (de (a0 ds))) := by
  refine ok_F F.fn scPair (fun ds ⟨_, _, e, _⟩ => by rw [e]; rfl) fun cdv Ar outer sh Hp0 xE Fr ds hr hm ⟨n, d, e, hd⟩ => ?_
  have nd := scPair.nd
  have q1 := tR.isc
  have q2 := tR.kRR
  subst e
  show W _ _ _ _ _ [some (.d (rat C n d))]
  refine W.cons ?_
  refine W1.iff ?_
  refine T.not ?_
  refine T.truth ?_
  refine E.callB B.isinstance bt_isinstance ?_
  refine A.cons ?_
  refine E.var 0 rfl ?_
  refine A.cons ?_
  refine E.globR tR.mgR ?_
  refine A.nil ?_
  walk_at "cl"
  walk_at "tr"
  refine iteF (W.nil ?_)
  refine W.cons ?_
  refine W1.iff ?_
  refine Tw.t ?_
  refine Tw.or ?_
  refine T.not ?_
  refine T.truth ?_
  refine E.dcall GInt (hr.mono (by decide)) ?_
  refine A.cons ?_
  refine E.fld ?_
  refine E.var 0 rfl ?_
  refine ⟨_, _, _, _, rfl, tR.cls, tR.nt, rfl, ?_⟩
  refine A.nil ?_
  refine ⟨[.int _], rfl, ⟨_, rfl⟩, ?_⟩
  rintro _ rfl
  walk_at "tr"
  refine iteF ?_
  refine Tw.or ?_
  refine T.not ?_
  refine T.truth ?_
  refine E.dcall GInt (hr.mono (by decide)) ?_
  refine A.cons ?_
  refine E.fld ?_
  refine E.var 0 rfl ?_
  refine ⟨_, _, _, _, rfl, tR.cls, tR.nb, rfl, ?_⟩
  refine A.nil ?_
  refine ⟨[.int _], rfl, ⟨_, rfl⟩, ?_⟩
  rintro _ rfl
  walk_at "tr"
  refine iteF ?_
  refine Tw.or1 ?_
  refine T.cmp ?_
  refine E.fld ?_
  refine E.var 0 rfl ?_
  refine ⟨_, _, _, _, rfl, tR.cls, tR.nb, rfl, ?_⟩
  refine E.int ?_
  walk_at "o"
  refine ⟨_, rfl, ?_⟩
  refine ifF (by omega) (W.nil ?_)
  refine W.cons ?_
  refine W1.ret ?_
  refine E.tup ?_
  refine A.cons ?_
  refine E.fld ?_
  refine E.var 0 rfl ?_
  refine ⟨_, _, _, _, rfl, tR.cls, tR.nt, rfl, ?_⟩
  refine A.cons ?_
  refine E.fld ?_
  refine E.var 0 rfl ?_
  refine ⟨_, _, _, _, rfl, tR.cls, tR.nb, rfl, ?_⟩
  refine A.nil ?_
  walk_at "disp"
  exact ⟨_, rfl, rfl⟩
abbrev KPair (P : Program) (w : World) (K : PySem.W.Frag) (mg : Str → Option Value) (base : Heap) (C : Addr) : Prop := DOk P w K mg base CX0 "_law_pair" 2 (spF K (fun ds => ∃ n d, ds = [rat C n d] ∧ 0 < d) fun ds r => r = dN (nu (a0 ds)) (de (a0 ds)))
abbrev sToldN : Stmt := top 39
theorem scToldN : FnScope ["told", "due", "pair"] ["told", "due"] (defScope sToldN) := ⟨rfl, rfl, rfl, by decide +kernel, rfl, by decide +kernel, by decide +kernel⟩
theorem ok_toldn (F : Df K mg "_law_told_number" sToldN ["told", "due"] f fd) (GPair : KPair P w K mg base C) (GEqual : KEqual P w K mg base) : FnOk P w K mg base CX0 3 f fd ["told", "due"] (spF K (fun ds => ∃ n d a b, ds = [rat C n d, dN a b] ∧ Nrm a b n d ∧ OkK 1900 a b) fun _ r => r = .bl true) := by
  refine ok_F F.fn scToldN (fun ds ⟨_, _, _, _, e, _⟩ => by rw [e]; rfl) fun cdv Ar outer sh Hp0 xE Fr ds hr hm ⟨n, d, a, b, e, hn, ho⟩ => ?_
  have nd := scToldN.nd
  subst e
  show W _ _ _ _ _ [some (.d (rat C n d)), some (.d (dN a b)), none]
  have hl := hn.le (Int.ne_of_gt ho.1)
  refine W.cons ?_
  refine W1.set 2 ?_ nd
  refine E.dcall GPair (hr.mono (by decide)) ?_
  refine A.cons ?_
  refine E.var 0 rfl ?_
  refine A.nil ?_
  refine ⟨[_], rfl, ⟨_, _, rfl, hn.1⟩, ?_⟩
  rintro _ rfl
  walk_at "n"
  refine W.cons ?_
  refine W1.ret ?_
  refine E.and ?_
  refine E.cmp ?_
  refine E.var 2 rfl ?_
  refine E.non ?_
  walk_at "o"
  refine ⟨_, rfl, ?_⟩
  refine iteT ?_
  refine E.one ?_
  refine E.dcall GEqual (hr.mono (by decide)) ?_
  refine A.cons ?_
  refine E.var 2 rfl ?_
  refine A.cons ?_
  refine E.var 1 rfl ?_
  refine A.nil ?_
  refine ⟨[_, _], rfl, ⟨n, d, a, b, rfl, ⟨hn.1, (ho.2.1.le hl.1).mono (by decide), (ho.2.2.le hl.2).mono (by decide)⟩, ho.mono⟩, ?_⟩
  rintro r h
  refine ⟨_, rfl, ?_⟩
  rw [h n d a b rfl]
  exact congrArg D.bl (decide_eq_true hn.2.1)
abbrev sIsEnd : Stmt := top 40
theorem scIsEnd : FnScope ["told", "due"] ["told", "due"] (defScope sIsEnd) := ⟨rfl, rfl, rfl, by decide +kernel, rfl, by decide +kernel, by decide +kernel⟩
theorem ok_isend (F : Df K mg "_law_is_end" sIsEnd ["told", "due"] f fd) (GTold : DOk P w K mg base CX0 "_law_told_number" 3 (spF K (fun ds => ∃ n d a b, ds = [rat C n d, dN a b] ∧ Nrm a b n d ∧ OkK 1900 a b) fun _ r => r = .bl true)) : FnOk P w K mg base CX0 4 f fd ["told", "due"] (spF K (fun ds => ∃ x e, ds = [x, dE e] ∧ TE C x e ∧ OkE 1900 e) fun _ r => r = .bl true) := by
  refine ok_F F.fn scIsEnd (fun ds ⟨_, _, e, _⟩ => by rw [e]; rfl) fun cdv Ar outer sh Hp0 xE Fr ds hr hm ⟨x, en, e, ht, ho⟩ => ?_
  have nd := scIsEnd.nd
  subst e
  cases ht with
  | non =>
    show W _ _ _ _ _ [some (.d .non), some (.d .non)]
    refine W.cons ?_
    refine W1.iff ?_
    refine Tw.t ?_
    refine Tw.or ?_
    refine T.cmp ?_
    refine E.var 0 rfl ?_
    refine E.non ?_
    walk_at "o"
    refine ⟨_, rfl, ?_⟩
    refine iteT (iteT ?_)
    refine W.cons ?_
    refine W1.ret ?_
    refine E.and ?_
    refine E.cmp ?_
    refine E.var 0 rfl ?_
    refine E.non ?_
    walk_at "o"
    refine ⟨_, rfl, ?_⟩
    refine iteT ?_
    refine E.one ?_
    refine E.cmp ?_
    refine E.var 1 rfl ?_
    refine E.non ?_
    walk_at "o"
    exact ⟨_, rfl, rfl⟩
  | @rat a b p q hn => cases ho with
    | num ho =>
      show W _ _ _ _ _ [some (.d (rat C p q)), some (.d (dN a b))]
      refine W.cons ?_
      refine W1.iff ?_
      refine Tw.t ?_
      refine Tw.or ?_
      refine T.cmp ?_
      refine E.var 0 rfl ?_
      refine E.non ?_
      walk_at "o"
      refine ⟨_, rfl, ?_⟩
      refine iteF ?_
      refine Tw.or1 ?_
      refine T.cmp ?_
      refine E.var 1 rfl ?_
      refine E.non ?_
      walk_at "o"
      refine ⟨_, rfl, ?_⟩
      refine iteF (W.nil ?_)
      refine W.cons ?_
      refine W1.ret ?_
      refine E.dcall GTold (hr.mono (by decide)) ?_
      refine A.cons ?_
      refine E.var 0 rfl ?_
      refine A.cons ?_
      refine E.var 1 rfl ?_
      refine A.nil ?_
      refine ⟨[_, _], rfl, ⟨_, _, _, _, rfl, hn, ho⟩, ?_⟩
      rintro _ rfl
      exact ⟨_, rfl, rfl⟩
abbrev KIsEnd (P : Program) (w : World) (K : PySem.W.Frag) (mg : Str → Option Value) (base : Heap) (C : Addr) : Prop := DOk P w K mg base CX0 "_law_is_end" 4 (spF K (fun ds => ∃ x e, ds = [x, dE e] ∧ TE C x e ∧ OkE 1900 e) fun _ r => r = .bl true)
abbrev sSameT : Stmt := top 41
theorem scSameT : FnScope ["interval", "ends"] ["interval", "ends"] (defScope sSameT) := ⟨rfl, rfl, rfl, by decide +kernel, rfl, by decide +kernel, by decide +kernel⟩
theorem ok_samet (F : Df K mg "_law_same_told" sSameT ["interval", "ends"] f fd) (B : Bl mg) (tI : IvT K mg C CI) (GIsEnd : KIsEnd P w K mg base C) : FnOk P w K mg base CX0 5 f fd ["interval", "ends"] (spF K (fun ds => ∃ x y l h, ds = [ivl CI x y, dI l h] ∧ TE C x l ∧ TE C y h ∧ OkE 1900 l ∧ OkE 1900 h) fun _ r => r = .bl true) := by
  refine ok_F F.fn scSameT (fun ds ⟨_, _, _, _, e, _⟩ => by rw [e]; rfl) fun cdv Ar outer sh Hp0 xE Fr ds hr hm ⟨x, y, l, h, e, t1, t2, o1, o2⟩ => ?_
  have nd := scSameT.nd
  have q1 := tI.isc
  have q2 := tI.kII
  subst e
  show W _ _ _ _ _ [some (.d (ivl CI x y)), some (.d (dI l h))]
  refine W.cons ?_
  refine W1.ret ?_
  refine E.and ?_
  refine E.callB B.isinstance bt_isinstance ?_
  refine A.cons ?_
  refine E.var 0 rfl ?_
  refine A.cons ?_
  refine E.globR tI.mgI ?_
  refine A.nil ?_
  walk_at "cl"
  refine ⟨_, rfl, ?_⟩
  refine iteT ?_
  refine E.and ?_
  refine E.dcall GIsEnd (hr.mono (by decide)) ?_
  refine A.cons ?_
  refine E.fld ?_
  refine E.var 0 rfl ?_
  refine ⟨_, _, _, _, rfl, tI.cls, tI.nl, rfl, ?_⟩
  refine A.cons ?_
  refine E.ix ?_
  refine E.var 1 rfl ?_
  refine E.int ?_
  walk_at "ix"
  refine A.nil ?_
  refine ⟨[_, _], rfl, ⟨_, _, rfl, t1, o1⟩, ?_⟩
  rintro _ rfl
  refine ⟨_, rfl, ?_⟩
  refine iteT ?_
  refine E.one ?_
  refine E.dcall GIsEnd (hr.mono (by decide)) ?_
  refine A.cons ?_
  refine E.fld ?_
  refine E.var 0 rfl ?_
  refine ⟨_, _, _, _, rfl, tI.cls, tI.nh, rfl, ?_⟩
  refine A.cons ?_
  refine E.ix ?_
  refine E.var 1 rfl ?_
  refine E.int ?_
  walk_at "ix"
  refine A.nil ?_
  refine ⟨[_, _], rfl, ⟨_, _, rfl, t2, o2⟩, ?_⟩
  rintro _ rfl
  exact ⟨_, rfl, rfl⟩
end

def eD : D → En
  | .tup [.int a, .int b] => some (a, b)
  | _ => none
def eL : D → En
  | .tup [x, _] => eD x
  | _ => none
def eH : D → En
  | .tup [_, x] => eD x
  | _ => none
theorem eD_dE {e : En} : eD (dE e) = e := by
  cases e with
  | none => rfl
  | some v => obtain ⟨a, b⟩ := v; rfl
theorem eL_dI {l h : En} : eL (dI l h) = l := eD_dE
theorem eH_dI {l h : En} : eH (dI l h) = h := eD_dE
def contE (l h n : En) : Bool := !lessE n l && !lessE h n
def byD (a b c e : Int) : Int × Int := if a = 0 ∨ c = 0 then (0, 1) else (a * c, b * e)
/-- an end times a number, by value -/
inductive MulV : En → Int → Int → En → Prop where
  | non {c e : Int} : MulV none c e none
  | num {a b c e p q : Int} (h : Nrm (a * c) (b * e) p q) : MulV (some (a, b)) c e (some (p, q))
def StrV (l h : En) (c e : Int) (l' h' : En) : Prop := (c = 0 ∧ l' = some (0, 1) ∧ h' = some (0, 1)) ∨ (0 < c ∧ MulV l c e l' ∧ MulV h c e h') ∨ (c < 0 ∧ MulV h c e l' ∧ MulV l c e h')
inductive AddV : En → En → En → Prop where
  | nl {y : En} : AddV none y none
  | nr {x : En} : AddV x none none
  | num {a b c e p q : Int} (h : Nrm (a * e + c * b) (b * e) p q) : AddV (some (a, b)) (some (c, e)) (some (p, q))
theorem MulV.ok {k j : Nat} {x r : En} {c e : Int} (h : MulV x c e r) (o : OkE k x) (oc : OkK j c e) : OkE (k + j) r := by
  cases h with
  | non => exact .non
  | num h => cases o with
    | num o =>
      have hp := Int.mul_pos o.1 oc.1
      have l := h.le (Int.ne_of_gt hp)
      exact .num ⟨h.1, (o.2.1.mul oc.2.1).le l.1, (o.2.2.mul oc.2.2).le l.2⟩
theorem AddV.ok {k j : Nat} {x y r : En} (h : AddV x y r) (o : OkE k x) (o' : OkE j y) : OkE (k + j + 1) r := by
  cases h with
  | nl => exact .non
  | nr => exact .non
  | num h => cases o with
    | num o => cases o' with
      | num o' =>
        have hp := Int.mul_pos o.1 o'.1
        have l := h.le (Int.ne_of_gt hp)
        exact .num ⟨h.1, ((o.2.1.mul o'.2.2).add (o'.2.1.mul o.2.2)).le l.1 |>.mono (by rw [Nat.add_comm j k, Nat.max_self]; exact Nat.le_refl _), ((o.2.2.mul o'.2.2).le l.2).mono (by omega)⟩
theorem ok01 : OkE 1 (some (0, 1)) := .num ⟨by decide, Bd.lit, Bd.lit⟩
theorem StrV.ok {k j : Nat} {l h l' h' : En} {c e : Int} (s : StrV l h c e l' h') (o1 : OkE k l) (o2 : OkE k h) (oc : OkK j c e) (hk : 1 ≤ k + j) : OkE (k + j) l' ∧ OkE (k + j) h' := by
  rcases s with ⟨_, rfl, rfl⟩ | ⟨_, m1, m2⟩ | ⟨_, m1, m2⟩
  · exact ⟨ok01.mono hk, ok01.mono hk⟩
  · exact ⟨m1.ok o1 oc, m2.ok o2 oc⟩
  · exact ⟨m1.ok o2 oc, m2.ok o1 oc⟩
theorem OkE.num' {k : Nat} {a b : Int} (h : OkE k (some (a, b))) : OkK k a b := by cases h with | num h => exact h
theorem lessE_nl {y : En} : lessE none y = false := rfl
theorem lessE_nr {x : En} : lessE x none = false := by
  cases x with
  | none => rfl
  | some v => obtain ⟨a, b⟩ := v; rfl
/-- weights times intervals, as the law adds them up -/
inductive TV : List D → List D → En → En → Prop where
  | nil : TV [] [] (some (0, 1)) (some (0, 1))
  | snoc {ws is : List D} {c e : Int} {l h l1 h1 l2 h2 l3 h3 : En} (t : TV ws is l h) (s : StrV l1 h1 c e l2 h2) (a1 : AddV l l2 l3) (a2 : AddV h h2 h3) : TV (ws ++ [dN c e]) (is ++ [dI l1 h1]) l3 h3

section
variable {P : Program} {w : World} {K : PySem.W.Frag} {mg : Str → Option Value} {base : Heap} {C CI : Addr} {f : Addr} {fd : FuncData}
theorem nn {k : Nat} {a b c e : Int} (h1 : OkK k a b) (h2 : OkK k c e) : preNN k [dN a b, dN c e] := ⟨_, _, _, _, rfl, h1, h2⟩
abbrev sCont : Stmt := top 42
theorem scCont : FnScope ["interval", "number"] ["interval", "number"] (defScope sCont) := ⟨rfl, rfl, rfl, by decide +kernel, rfl, by decide +kernel, by decide +kernel⟩
def preCon : List D → Prop := fun ds => ∃ l h c e, ds = [dI l h, dN c e] ∧ OkE 1900 l ∧ OkE 1900 h ∧ OkK 1900 c e
theorem ok_cont (F : Df K mg "_law_contains" sCont ["interval", "number"] f fd) (GLess : KLess P w K mg base) : FnOk P w K mg base CX0 2 f fd ["interval", "number"] (spF K preCon fun ds r => r = .bl (contE (eL (a0 ds)) (eH (a0 ds)) (eD (a1 ds)))) := by
  refine ok_F F.fn scCont (fun ds ⟨_, _, _, _, e, _⟩ => by rw [e]; rfl) fun cdv Ar outer sh Hp0 xE Fr ds hr hm ⟨l, h, c, e, eq, o1, o2, oc⟩ => ?_
  have nd := scCont.nd
  subst eq
  refine W.cut (fun o r => lessE (some (c, e)) l = false ∧ r = [some (.d (dI l h)), some (.d (dN c e))]) ?_ ?_
  · cases o1 with
    | non =>
      show W1 _ _ _ _ _ [some (.d (dI none h)), some (.d (dN c e))]
      refine W1.iff ?_
      refine Tw.t ?_
      refine Tw.and ?_
      refine T.cmp ?_
      refine E.ix ?_
      refine E.var 0 rfl ?_
      refine E.int ?_
      walk_at "ix"
      refine E.non ?_
      walk_at "o"
      refine ⟨_, rfl, ?_⟩
      exact iteF (W.nil ⟨rfl, rfl⟩)
    | @num a b o1 =>
      show W1 _ _ _ _ _ [some (.d (dI (some (a, b)) h)), some (.d (dN c e))]
      refine W1.iff ?_
      refine Tw.t ?_
      refine Tw.and ?_
      refine T.cmp ?_
      refine E.ix ?_
      refine E.var 0 rfl ?_
      refine E.int ?_
      walk_at "ix"
      refine E.non ?_
      walk_at "o"
      refine ⟨_, rfl, ?_⟩
      refine iteT ?_
      refine Tw.and1 ?_
      refine T.truth ?_
      refine E.dcall GLess (hr.mono (by decide)) ?_
      refine A.cons ?_
      refine E.var 1 rfl ?_
      refine A.cons ?_
      refine E.ix ?_
      refine E.var 0 rfl ?_
      refine E.int ?_
      walk_at "ix"
      refine A.nil ?_
      refine ⟨[_, _], rfl, nn oc.mono o1.mono, ?_⟩
      rintro r hr'
      rw [hr' _ _ _ _ rfl]
      walk_at "tr"
      refine two2 (fun hz => ?_) (fun hz => W.nil ⟨hz, rfl⟩)
      refine W.cons ?_
      refine W1.ret ?_
      refine E.bl ?_
      refine ⟨_, rfl, ?_⟩
      show D.bl false = D.bl (!lessE (some (c, e)) (some (a, b)) && !lessE (eD (dE h)) (some (c, e)))
      rw [show lessE (some (c, e)) (some (a, b)) = true from hz]; rfl
  rintro o ρ ⟨hl, rfl⟩
  have fin : ∀ b : Bool, b = !lessE h (some (c, e)) → D.bl b = .bl (contE (eL (dI l h)) (eH (dI l h)) (eD (dN c e))) := fun b hb => by
    rw [eL_dI, eH_dI, hb]
    show D.bl _ = D.bl (!lessE (some (c, e)) l && !lessE h (some (c, e)))
    rw [hl]; rfl
  cases o2 with
  | non =>
    refine W.cons ?_
    refine W1.ret ?_
    refine E.or ?_
    refine E.cmp ?_
    refine E.ix ?_
    refine E.var 0 rfl ?_
    refine E.int ?_
    walk_at "ix"
    refine E.non ?_
    walk_at "o"
    refine ⟨_, rfl, ?_⟩
    exact iteT ⟨_, rfl, fin _ rfl⟩
  | @num a b o2 =>
    refine W.cons ?_
    refine W1.ret ?_
    refine E.or ?_
    refine E.cmp ?_
    refine E.ix ?_
    refine E.var 0 rfl ?_
    refine E.int ?_
    walk_at "ix"
    refine E.non ?_
    walk_at "o"
    refine ⟨_, rfl, ?_⟩
    refine iteF ?_
    refine E.one ?_
    refine E.not ?_
    refine E.dcall GLess (hr.mono (by decide)) ?_
    refine A.cons ?_
    refine E.ix ?_
    refine E.var 0 rfl ?_
    refine E.int ?_
    walk_at "ix"
    refine A.cons ?_
    refine E.var 1 rfl ?_
    refine A.nil ?_
    refine ⟨[_, _], rfl, nn o2.mono oc.mono, ?_⟩
    rintro r hr'
    rw [hr' _ _ _ _ rfl]
    refine ⟨_, rfl, ?_⟩
    exact ⟨_, rfl, fin _ rfl⟩
abbrev sFlag : Stmt := top 43
theorem scFlag : FnScope ["told", "due"] ["told", "due"] (defScope sFlag) := ⟨rfl, rfl, rfl, by decide +kernel, rfl, by decide +kernel, by decide +kernel⟩
theorem ok_flag (F : Df K mg "_law_flag" sFlag ["told", "due"] f fd) (B : Bl mg) (tI : IvT K mg C CI) : FnOk P w K mg base CX0 1 f fd ["told", "due"] (spF K (fun ds => ∃ a b : Bool, ds = [.bl a, .bl b]) fun ds r => ∀ a b : Bool, ds = [.bl a, .bl b] → r = .bl (a == b)) := by
  refine ok_F F.fn scFlag (fun ds ⟨_, _, e⟩ => by rw [e]; rfl) fun cdv Ar outer sh Hp0 xE Fr ds hr hm ⟨a, b, e⟩ => ?_
  have nd := scFlag.nd
  have q := tI.kBB
  subst e
  show W _ _ _ _ _ [some (.d (.bl a)), some (.d (.bl b))]
  refine W.cons ?_
  refine W1.ret ?_
  refine E.and ?_
  refine E.callB B.isinstance bt_isinstance ?_
  refine A.cons ?_
  refine E.var 0 rfl ?_
  refine A.cons ?_
  refine E.bty B.bool bt_bool ?_
  refine A.nil ?_
  refine Cl.isiBl (fun _ _ => clsv_ty) q ?_
  refine ⟨_, rfl, ?_⟩
  refine iteT ?_
  refine E.one ?_
  refine E.cmp ?_
  refine E.var 0 rfl ?_
  refine E.var 1 rfl ?_
  refine O2.eqB ?_
  exact ⟨_, rfl, fun a' b' z => by cases z; rfl⟩
abbrev sSameE : Stmt := top 44
theorem scSameE : FnScope ["one", "two"] ["one", "two"] (defScope sSameE) := ⟨rfl, rfl, rfl, by decide +kernel, rfl, by decide +kernel, by decide +kernel⟩
theorem ok_samee (F : Df K mg "_law_same_end" sSameE ["one", "two"] f fd) (GEqual : KEqual P w K mg base) : FnOk P w K mg base CX0 2 f fd ["one", "two"] (spF K (fun ds => ∃ l h, ds = [dE l, dE h] ∧ OkE 1900 l ∧ OkE 1900 h) fun ds r => r = .bl (sameE (eD (a0 ds)) (eD (a1 ds)))) := by
  refine ok_F F.fn scSameE (fun ds ⟨_, _, e, _⟩ => by rw [e]; rfl) fun cdv Ar outer sh Hp0 xE Fr ds hr hm ⟨l, h, eq, o1, o2⟩ => ?_
  have nd := scSameE.nd
  subst eq
  cases o1 with
  | non =>
    cases o2 with
    | non =>
      show W _ _ _ _ _ [some (.d .non), some (.d .non)]
      refine W.cons ?_
      refine W1.iff ?_
      refine Tw.t ?_
      refine Tw.or ?_
      refine T.cmp ?_
      refine E.var 0 rfl ?_
      refine E.non ?_
      walk_at "o"
      refine ⟨_, rfl, ?_⟩
      refine iteT (iteT ?_)
      refine W.cons ?_
      refine W1.ret ?_
      refine E.and ?_
      refine E.cmp ?_
      refine E.var 0 rfl ?_
      refine E.non ?_
      walk_at "o"
      refine ⟨_, rfl, ?_⟩
      refine iteT ?_
      refine E.one ?_
      refine E.cmp ?_
      refine E.var 1 rfl ?_
      refine E.non ?_
      walk_at "o"
      exact ⟨_, rfl, rfl⟩
    | @num c e o2 =>
      show W _ _ _ _ _ [some (.d .non), some (.d (dN c e))]
      refine W.cons ?_
      refine W1.iff ?_
      refine Tw.t ?_
      refine Tw.or ?_
      refine T.cmp ?_
      refine E.var 0 rfl ?_
      refine E.non ?_
      walk_at "o"
      refine ⟨_, rfl, ?_⟩
      refine iteT (iteT ?_)
      refine W.cons ?_
      refine W1.ret ?_
      refine E.and ?_
      refine E.cmp ?_
      refine E.var 0 rfl ?_
      refine E.non ?_
      walk_at "o"
      refine ⟨_, rfl, ?_⟩
      refine iteT ?_
      refine E.one ?_
      refine E.cmp ?_
      refine E.var 1 rfl ?_
      refine E.non ?_
      walk_at "o"
      exact ⟨_, rfl, rfl⟩
  | @num a b o1 =>
    cases o2 with
    | non =>
      show W _ _ _ _ _ [some (.d (dN a b)), some (.d .non)]
      refine W.cons ?_
      refine W1.iff ?_
      refine Tw.t ?_
      refine Tw.or ?_
      refine T.cmp ?_
      refine E.var 0 rfl ?_
      refine E.non ?_
      walk_at "o"
      refine ⟨_, rfl, ?_⟩
      refine iteF ?_
      refine Tw.or1 ?_
      refine T.cmp ?_
      refine E.var 1 rfl ?_
      refine E.non ?_
      walk_at "o"
      refine ⟨_, rfl, ?_⟩
      refine iteT ?_
      refine W.cons ?_
      refine W1.ret ?_
      refine E.and ?_
      refine E.cmp ?_
      refine E.var 0 rfl ?_
      refine E.non ?_
      walk_at "o"
      refine ⟨_, rfl, ?_⟩
      exact iteF ⟨_, rfl, rfl⟩
    | @num c e o2 =>
      show W _ _ _ _ _ [some (.d (dN a b)), some (.d (dN c e))]
      refine W.cons ?_
      refine W1.iff ?_
      refine Tw.t ?_
      refine Tw.or ?_
      refine T.cmp ?_
      refine E.var 0 rfl ?_
      refine E.non ?_
      walk_at "o"
      refine ⟨_, rfl, ?_⟩
      refine iteF ?_
      refine Tw.or1 ?_
      refine T.cmp ?_
      refine E.var 1 rfl ?_
      refine E.non ?_
      walk_at "o"
      refine ⟨_, rfl, ?_⟩
      refine iteF (W.nil ?_)
      refine W.cons ?_
      refine W1.ret ?_
      refine E.dcall GEqual (hr.mono (by decide)) ?_
      refine A.cons ?_
      refine E.var 0 rfl ?_
      refine A.cons ?_
      refine E.var 1 rfl ?_
      refine A.nil ?_
      refine ⟨[_, _], rfl, nn o1.mono o2.mono, ?_⟩
      rintro r hr'
      exact ⟨_, rfl, hr' _ _ _ _ rfl⟩
abbrev KSameE (P : Program) (w : World) (K : PySem.W.Frag) (mg : Str → Option Value) (base : Heap) : Prop := DOk P w K mg base CX0 "_law_same_end" 2 (spF K (fun ds => ∃ l h, ds = [dE l, dE h] ∧ OkE 1900 l ∧ OkE 1900 h) fun ds r => r = .bl (sameE (eD (a0 ds)) (eD (a1 ds))))
abbrev sSameS : Stmt := top 51
theorem scSameS : FnScope ["one", "two"] ["one", "two"] (defScope sSameS) := ⟨rfl, rfl, rfl, by decide +kernel, rfl, by decide +kernel, by decide +kernel⟩
theorem ok_sames (F : Df K mg "_law_same_ends" sSameS ["one", "two"] f fd) (GSameE : KSameE P w K mg base) : FnOk P w K mg base CX0 3 f fd ["one", "two"] (spF K (fun ds => ∃ l h l' h', ds = [dI l h, dI l' h'] ∧ OkE 1900 l ∧ OkE 1900 h ∧ OkE 1900 l' ∧ OkE 1900 h') fun ds r => r = .bl (sameE (eL (a0 ds)) (eL (a1 ds)) && sameE (eH (a0 ds)) (eH (a1 ds)))) := by
  refine ok_F F.fn scSameS (fun ds ⟨_, _, _, _, e, _⟩ => by rw [e]; rfl) fun cdv Ar outer sh Hp0 xE Fr ds hr hm ⟨l, h, l', h', eq, o1, o2, o3, o4⟩ => ?_
  have nd := scSameS.nd
  subst eq
  show W _ _ _ _ _ [some (.d (dI l h)), some (.d (dI l' h'))]
  refine W.cons ?_
  refine W1.ret ?_
  refine E.and ?_
  refine E.dcall GSameE (hr.mono (by decide)) ?_
  refine A.cons ?_
  refine E.ix ?_
  refine E.var 0 rfl ?_
  refine E.int ?_
  walk_at "ix"
  refine A.cons ?_
  refine E.ix ?_
  refine E.var 1 rfl ?_
  refine E.int ?_
  walk_at "ix"
  refine A.nil ?_
  refine ⟨[_, _], rfl, ⟨_, _, rfl, o1, o3⟩, ?_⟩
  rintro _ rfl
  refine ⟨_, rfl, ?_⟩
  refine two2 (fun hz => ?_) (fun hz => ?_)
  · skip
    refine E.one ?_
    refine E.dcall GSameE (hr.mono (by decide)) ?_
    refine A.cons ?_
    refine E.ix ?_
    refine E.var 0 rfl ?_
    refine E.int ?_
    walk_at "ix"
    refine A.cons ?_
    refine E.ix ?_
    refine E.var 1 rfl ?_
    refine E.int ?_
    walk_at "ix"
    refine A.nil ?_
    refine ⟨[_, _], rfl, ⟨_, _, rfl, o2, o4⟩, ?_⟩
    rintro _ rfl
    refine ⟨_, rfl, ?_⟩
    show D.bl _ = D.bl (sameE (eD (dE l)) (eD (dE l')) && sameE (eD (dE h)) (eD (dE h')))
    rw [show sameE (eD (dE l)) (eD (dE l')) = true from hz]; rfl
  · refine ⟨_, rfl, ?_⟩
    show D.bl _ = D.bl (sameE (eD (dE l)) (eD (dE l')) && sameE (eD (dE h)) (eD (dE h')))
    rw [show sameE (eD (dE l)) (eD (dE l')) = false from hz]; rfl
abbrev sBy : Stmt := top 45
theorem scBy : FnScope ["one", "two"] ["one", "two"] (defScope sBy) := ⟨rfl, rfl, rfl, by decide +kernel, rfl, by decide +kernel, by decide +kernel⟩
theorem ok_by (F : Df K mg "_law_by" sBy ["one", "two"] f fd) : FnOk P w K mg base CX0 1 f fd ["one", "two"] (spF K (preNN 1900) fun ds r => ∀ a b c e, ds = [dN a b, dN c e] → r = dN (byD a b c e).1 (byD a b c e).2) := by
  refine ok_F F.fn scBy (fun ds ⟨_, _, _, _, e, _⟩ => by rw [e]; rfl) fun cdv Ar outer sh Hp0 xE Fr ds hr hm ⟨a, b, c, e, eq, ⟨hb, bA', bB'⟩, ⟨he, bC', bE'⟩⟩ => ?_
  have nd := scBy.nd
  subst eq
  have bA := bA'.mono (show 1900 ≤ 4000 by decide)
  have bB := bB'.mono (show 1900 ≤ 4000 by decide)
  have bC := bC'.mono (show 1900 ≤ 4000 by decide)
  have bE := bE'.mono (show 1900 ≤ 4000 by decide)
  show W _ _ _ _ _ [some (.d (dN a b)), some (.d (dN c e))]
  have z1 : (a = 0 ∨ c = 0) → ∃ d, R.d (dN 0 1) = .d d ∧ ∀ a' b' c' e' : Int, [dN a b, dN c e] = [dN a' b', dN c' e'] → d = dN (byD a' b' c' e').1 (byD a' b' c' e').2 := fun h => ⟨_, rfl, fun a' b' c' e' z => by cases z; rw [show byD a b c e = (0, 1) from if_pos h]⟩
  refine W.cons ?_
  refine W1.iff ?_
  refine Tw.t ?_
  refine Tw.or ?_
  refine T.cmp ?_
  refine E.ix ?_
  refine E.var 0 rfl ?_
  refine E.int ?_
  walk_at "ix"
  refine E.int ?_
  walk_at "o"
  refine ⟨_, rfl, ?_⟩
  refine ifd (fun h => iteT ?_) (fun h => ?_)
  · skip
    refine W.cons ?_
    refine W1.ret ?_
    refine E.tup ?_
    refine A.cons ?_
    refine E.int ?_
    refine A.cons ?_
    refine E.int ?_
    refine A.nil ?_
    walk_at "disp"
    exact z1 (.inl h)
  refine Tw.or1 ?_
  refine T.cmp ?_
  refine E.ix ?_
  refine E.var 1 rfl ?_
  refine E.int ?_
  walk_at "ix"
  refine E.int ?_
  walk_at "o"
  refine ⟨_, rfl, ?_⟩
  refine ifd (fun h2 => ?_) (fun h2 => W.nil ?_)
  · skip
    refine W.cons ?_
    refine W1.ret ?_
    refine E.tup ?_
    refine A.cons ?_
    refine E.int ?_
    refine A.cons ?_
    refine E.int ?_
    refine A.nil ?_
    walk_at "disp"
    exact z1 (.inr h2)
  refine W.cons ?_
  refine W1.ret ?_
  refine E.tup ?_
  refine A.cons ?_
  refine E.bin ?_
  refine E.ix ?_
  refine E.var 0 rfl ?_
  refine E.int ?_
  walk_at "ix"
  refine E.ix ?_
  refine E.var 1 rfl ?_
  refine E.int ?_
  walk_at "ix"
  walk_at "o"
  refine A.cons ?_
  refine E.bin ?_
  refine E.ix ?_
  refine E.var 0 rfl ?_
  refine E.int ?_
  walk_at "ix"
  refine E.ix ?_
  refine E.var 1 rfl ?_
  refine E.int ?_
  walk_at "ix"
  walk_at "o"
  refine A.nil ?_
  walk_at "disp"
  exact ⟨_, rfl, fun a' b' c' e' z => by cases z; rw [show byD a b c e = (a * c, b * e) from if_neg (by omega)]⟩
end

section
variable {P : Program} {w : World} {K : PySem.W.Frag} {mg : Str → Option Value} {base : Heap} {C CI : Addr} {f : Addr} {fd : FuncData}
abbrev KLow (P : Program) (w : World) (K : PySem.W.Frag) (mg : Str → Option Value) (base : Heap) : Prop := DOk P w K mg base CX0 "_law_low" 2 (spF K (fun ds => ∃ a b, ds = [dN a b] ∧ OkK 4000 a b) fun ds r => ∀ a b, ds = [dN a b] → ∃ p q, r = dN p q ∧ Nrm a b p q)
abbrev KPlus (P : Program) (w : World) (K : PySem.W.Frag) (mg : Str → Option Value) (base : Heap) : Prop := DOk P w K mg base CX0 "_law_plus" 1 (spF K (preNN 4000) fun ds r => ∀ a b c e, ds = [dN a b, dN c e] → r = dN (plusD a b c e).1 (plusD a b c e).2)
abbrev KBy (P : Program) (w : World) (K : PySem.W.Frag) (mg : Str → Option Value) (base : Heap) : Prop := DOk P w K mg base CX0 "_law_by" 1 (spF K (preNN 1900) fun ds r => ∀ a b c e, ds = [dN a b, dN c e] → r = dN (byD a b c e).1 (byD a b c e).2)
theorem by_ok {a b c e : Int} (h1 : OkK 1900 a b) (h2 : OkK 1900 c e) : OkK 4000 (byD a b c e).1 (byD a b c e).2 := by
  unfold byD
  split
  · exact ⟨by decide, Bd.lit, Bd.lit⟩
  · exact ⟨Int.mul_pos h1.1 h2.1, (h1.2.1.mul h2.2.1).mono (by decide), (h1.2.2.mul h2.2.2).mono (by decide)⟩
theorem by_nrm {a b c e p q : Int} (h : Nrm (byD a b c e).1 (byD a b c e).2 p q) : Nrm (a * c) (b * e) p q := by
  unfold byD at h
  split at h
  · rename_i hz
    refine h.conv (by decide) ?_
    have : a * c = 0 := by rcases hz with z | z <;> rw [z] <;> simp
    rw [this]; simp
  · exact h
theorem plus_ok {k : Nat} {a b c e : Int} (h1 : OkK k a b) (h2 : OkK k c e) (hk : k + k + 1 ≤ 4000 := by decide) : OkK 4000 (plusD a b c e).1 (plusD a b c e).2 := by
  unfold plusD
  split
  · exact ⟨h1.1, (h1.2.1.add h2.2.1).mono (by rw [Nat.max_self]; omega), h1.2.2.mono (by omega)⟩
  · exact ⟨Int.mul_pos h1.1 h2.1, ((h1.2.1.mul h2.2.2).add (h2.2.1.mul h1.2.2)).mono (by rw [Nat.max_self]; omega), (h1.2.2.mul h2.2.2).mono (by omega)⟩
theorem plus_val {a b c e : Int} : (plusD a b c e).1 * (b * e) = (a * e + c * b) * (plusD a b c e).2 := by
  unfold plusD
  split
  · rename_i h; subst h; show (a + c) * (b * b) = (a * b + c * b) * b; grind
  · rfl
theorem plus_nrm {a b c e p q : Int} (hb : 0 < b) (he : 0 < e) (h : Nrm (plusD a b c e).1 (plusD a b c e).2 p q) : Nrm (a * e + c * b) (b * e) p q := by
  refine h.conv ?_ plus_val
  unfold plusD
  split
  · exact Int.ne_of_gt hb
  · exact Int.ne_of_gt (Int.mul_pos hb he)
abbrev sStr : Stmt := top 46
theorem scStr : FnScope ["interval", "number", "ends", "end"] ["interval", "number"] (defScope sStr) := ⟨rfl, rfl, rfl, by decide +kernel, rfl, by decide +kernel, by decide +kernel⟩
def preStr : List D → Prop := fun ds => ∃ l h c e, ds = [dI l h, dN c e] ∧ OkE 1900 l ∧ OkE 1900 h ∧ OkK 1900 c e
def postStr : List D → D → Prop := fun ds r => ∀ l h c e, eL (a0 ds) = l → eH (a0 ds) = h → a1 ds = dN c e → ∃ l' h', r = dI l' h' ∧ StrV l h c e l' h'
theorem ok_str (F : Df K mg "_law_stretched" sStr ["interval", "number"] f fd) (GLow : KLow P w K mg base) (GBy : KBy P w K mg base) : FnOk P w K mg base CX0 3 f fd ["interval", "number"] (spF K preStr postStr) := by
  refine ok_F F.fn scStr (fun ds ⟨_, _, _, _, e, _⟩ => by rw [e]; rfl) fun cdv Ar outer sh Hp0 xE Fr ds hr hm ⟨l, h, c, e, eq, o1, o2, oc⟩ => ?_
  have nd := scStr.nd
  subst eq
  have fin : ∀ l' h', StrV l h c e l' h' → ∃ d, R.d (dI l' h') = .d d ∧ postStr [dI l h, dN c e] d := fun l' h' s => ⟨_, rfl, fun l2 h2 c2 e2 z1 z2 z3 => by
    have z1 : eL (dI l h) = l2 := z1
    have z2 : eH (dI l h) = h2 := z2
    have z3 : dN c e = dN c2 e2 := z3
    rw [eL_dI] at z1
    rw [eH_dI] at z2
    cases z3
    subst z1; subst z2
    exact ⟨_, _, rfl, s⟩⟩
  show W _ _ _ _ _ [some (.d (dI l h)), some (.d (dN c e)), none, none]
  refine W.cons ?_
  refine W1.iff ?_
  refine T.cmp ?_
  refine E.ix ?_
  refine E.var 1 rfl ?_
  refine E.int ?_
  walk_at "ix"
  refine E.int ?_
  walk_at "o"
  refine ⟨_, rfl, ?_⟩
  refine ifd (fun hc => ?_) (fun hc => W.nil ?_)
  · skip
    refine W.cons ?_
    refine W1.ret ?_
    refine E.tup ?_
    refine A.cons ?_
    refine E.tup ?_
    refine A.cons ?_
    refine E.int ?_
    refine A.cons ?_
    refine E.int ?_
    refine A.nil ?_
    walk_at "disp"
    refine A.cons ?_
    refine E.tup ?_
    refine A.cons ?_
    refine E.int ?_
    refine A.cons ?_
    refine E.int ?_
    refine A.nil ?_
    walk_at "disp"
    refine A.nil ?_
    walk_at "disp"
    exact fin (some (0, 1)) (some (0, 1)) (.inl ⟨hc, rfl, rfl⟩)
  refine W.cons ?_
  refine W1.set 2 ?_ nd
  refine E.lstC ?_
  refine A.nil ?_
  walk_at "dispC"
  walk_at "n"
  refine W.cut (fun o r => ∃ l' h' z, o = [.lst [.d (dE l'), .d (dE h')]] ∧ MulV l c e l' ∧ MulV h c e h' ∧ r = [some (.d (dI l h)), some (.d (dN c e)), some (.c 0), z]) ?_ ?_
  · refine W1.forT (fun i o r => (∃ z, r = [some (.d (dI l h)), some (.d (dN c e)), some (.c 0), z]) ∧ ((i = 0 ∧ o = [.lst []]) ∨ (i = 1 ∧ ∃ l', o = [.lst [.d (dE l')]] ∧ MulV l c e l') ∨ (i = 2 ∧ ∃ l' h', o = [.lst [.d (dE l'), .d (dE h')]] ∧ MulV l c e l' ∧ MulV h c e h'))) rfl PassesOwn.never ?_
    refine E.var 0 rfl ?_
    refine ⟨_, rfl, ⟨⟨_, rfl⟩, .inl ⟨rfl, rfl⟩⟩, ?_, ?_⟩
    · rintro i d o ρ hd ⟨⟨z, rfl⟩, hs⟩
      have step : ∀ (x : En) (rs : List R) (N : List Cell → Ro → Prop), OkE 1900 x → rs.length < 5 → (∀ x' z, MulV x c e x' → N [.lst (rs ++ [.d (dE x')])] [some (.d (dI l h)), some (.d (dN c e)), some (.c 0), z]) →
          Tg (cx0 P w K mg base ["interval", "number", "ends", "end"] "_law_stretched" (defScope sStr) f cdv Ar outer sh Hp0 xE) Fr (.Name "end" ⟨0, 0, 0, 0⟩) (.d (dE x)) (fun _ _ => True) [] [] → True := fun _ _ _ _ _ _ _ => trivial
      rcases hs with ⟨rfl, rfl⟩ | ⟨rfl, l', rfl, m1⟩ | ⟨rfl, _⟩
      · cases hd
        refine Tg.name 3 ?_ nd
        cases o1 with
        | non =>
          show W _ _ _ _ _ [_, _, _, some (.d .non)]
          refine W.cons ?_
          refine W1.iff ?_
          refine T.cmp ?_
          refine E.var 3 rfl ?_
          refine E.non ?_
          walk_at "o"
          refine ⟨_, rfl, ?_⟩
          refine iteT ?_
          refine W.cons ?_
          refine W1.expr ?_
          refine E.append ?_
          refine E.var 2 rfl ?_
          refine ⟨_, rfl, ?_, ?_⟩; rotate_left; exact ⟨_, rfl⟩
          refine E.non ?_
          walk_at "app"
          exact W.nil (W.nil ⟨⟨_, rfl⟩, .inr (.inl ⟨rfl, none, rfl, .non⟩)⟩)
        | @num a b o1 =>
          show W _ _ _ _ _ [_, _, _, some (.d (dN a b))]
          refine W.cons ?_
          refine W1.iff ?_
          refine T.cmp ?_
          refine E.var 3 rfl ?_
          refine E.non ?_
          walk_at "o"
          refine ⟨_, rfl, ?_⟩
          refine iteF ?_
          refine W.cons ?_
          refine W1.expr ?_
          refine E.append ?_
          refine E.var 2 rfl ?_
          refine ⟨_, rfl, ?_, ?_⟩; rotate_left; exact ⟨_, rfl⟩
          refine E.dcall GLow (hr.mono (by decide)) ?_
          refine A.cons ?_
          refine E.dcall GBy (hr.mono (by decide)) ?_
          refine A.cons ?_
          refine E.var 3 rfl ?_
          refine A.cons ?_
          refine E.var 1 rfl ?_
          refine A.nil ?_
          refine ⟨[_, _], rfl, nn o1 oc, ?_⟩
          rintro r hr1
          have hr1 := hr1 _ _ _ _ rfl
          subst hr1
          refine A.nil ?_
          refine ⟨[_], rfl, ⟨_, _, rfl, by_ok o1 oc⟩, ?_⟩
          rintro r hr2
          obtain ⟨p, q, rfl, hn⟩ := hr2 _ _ rfl
          walk_at "app"
          exact W.nil (W.nil ⟨⟨_, rfl⟩, .inr (.inl ⟨rfl, some (p, q), rfl, .num (by_nrm hn)⟩)⟩)
      · cases hd
        refine Tg.name 3 ?_ nd
        cases o2 with
        | non =>
          show W _ _ _ _ _ [_, _, _, some (.d .non)]
          refine W.cons ?_
          refine W1.iff ?_
          refine T.cmp ?_
          refine E.var 3 rfl ?_
          refine E.non ?_
          walk_at "o"
          refine ⟨_, rfl, ?_⟩
          refine iteT ?_
          refine W.cons ?_
          refine W1.expr ?_
          refine E.append ?_
          refine E.var 2 rfl ?_
          refine ⟨_, rfl, ?_, ?_⟩; rotate_left; exact ⟨_, rfl⟩
          refine E.non ?_
          walk_at "app"
          exact W.nil (W.nil ⟨⟨_, rfl⟩, .inr (.inr ⟨rfl, l', none, rfl, m1, .non⟩)⟩)
        | @num a b o2 =>
          show W _ _ _ _ _ [_, _, _, some (.d (dN a b))]
          refine W.cons ?_
          refine W1.iff ?_
          refine T.cmp ?_
          refine E.var 3 rfl ?_
          refine E.non ?_
          walk_at "o"
          refine ⟨_, rfl, ?_⟩
          refine iteF ?_
          refine W.cons ?_
          refine W1.expr ?_
          refine E.append ?_
          refine E.var 2 rfl ?_
          refine ⟨_, rfl, ?_, ?_⟩; rotate_left; exact ⟨_, rfl⟩
          refine E.dcall GLow (hr.mono (by decide)) ?_
          refine A.cons ?_
          refine E.dcall GBy (hr.mono (by decide)) ?_
          refine A.cons ?_
          refine E.var 3 rfl ?_
          refine A.cons ?_
          refine E.var 1 rfl ?_
          refine A.nil ?_
          refine ⟨[_, _], rfl, nn o2 oc, ?_⟩
          rintro r hr1
          have hr1 := hr1 _ _ _ _ rfl
          subst hr1
          refine A.nil ?_
          refine ⟨[_], rfl, ⟨_, _, rfl, by_ok o2 oc⟩, ?_⟩
          rintro r hr2
          obtain ⟨p, q, rfl, hn⟩ := hr2 _ _ rfl
          walk_at "app"
          exact W.nil (W.nil ⟨⟨_, rfl⟩, .inr (.inr ⟨rfl, l', some (p, q), rfl, m1, .num (by_nrm hn)⟩)⟩)
      · cases hd
    · rintro o ρ ⟨⟨z, rfl⟩, hs⟩
      rcases hs with ⟨h0, _⟩ | ⟨h0, _⟩ | ⟨_, l', h', rfl, m1, m2⟩
      · cases h0
      · cases h0
      · exact ⟨l', h', z, rfl, m1, m2, rfl⟩
  rintro o ρ ⟨l', h', z, rfl, m1, m2, rfl⟩
  refine W.cons ?_
  refine W1.iff ?_
  refine T.cmp ?_
  refine E.ix ?_
  refine E.var 1 rfl ?_
  refine E.int ?_
  walk_at "ix"
  refine E.int ?_
  walk_at "o"
  refine ⟨_, rfl, ?_⟩
  refine ifd (fun hn => ?_) (fun hn => W.nil ?_)
  · skip
    refine W.cons ?_
    refine W1.ret ?_
    refine E.tup ?_
    refine A.cons ?_
    refine E.ix ?_
    refine E.var 2 rfl ?_
    refine E.int ?_
    walk_at "ix"
    refine A.cons ?_
    refine E.ix ?_
    refine E.var 2 rfl ?_
    refine E.int ?_
    walk_at "ix"
    refine A.nil ?_
    walk_at "disp"
    exact fin h' l' (.inr (.inr ⟨hn, m2, m1⟩))
  · skip
    refine W.cons ?_
    refine W1.ret ?_
    refine E.tup ?_
    refine A.cons ?_
    refine E.ix ?_
    refine E.var 2 rfl ?_
    refine E.int ?_
    walk_at "ix"
    refine A.cons ?_
    refine E.ix ?_
    refine E.var 2 rfl ?_
    refine E.int ?_
    walk_at "ix"
    refine A.nil ?_
    walk_at "disp"
    exact fin l' h' (.inr (.inl ⟨by have hc : ¬ c = 0 := hc; omega, m1, m2⟩))
abbrev sJoin : Stmt := top 47
theorem scJoin : FnScope ["one", "two"] ["one", "two"] (defScope sJoin) := ⟨rfl, rfl, rfl, by decide +kernel, rfl, by decide +kernel, by decide +kernel⟩
theorem ok_join (F : Df K mg "_law_joined" sJoin ["one", "two"] f fd) (GLow : KLow P w K mg base) (GPlus : KPlus P w K mg base) : FnOk P w K mg base CX0 3 f fd ["one", "two"] (spF K (fun ds => ∃ x y, ds = [dE x, dE y] ∧ OkE 1900 x ∧ OkE 1900 y) fun ds r => ∀ x y, eD (a0 ds) = x → eD (a1 ds) = y → ∃ z, r = dE z ∧ AddV x y z) := by
  refine ok_F F.fn scJoin (fun ds ⟨_, _, e, _⟩ => by rw [e]; rfl) fun cdv Ar outer sh Hp0 xE Fr ds hr hm ⟨x, y, eq, o1, o2⟩ => ?_
  have nd := scJoin.nd
  subst eq
  cases o1 with
  | non =>
    show W _ _ _ _ _ [some (.d .non), some (.d (dE y))]
    refine W.cons ?_
    refine W1.iff ?_
    refine Tw.t ?_
    refine Tw.or ?_
    refine T.cmp ?_
    refine E.var 0 rfl ?_
    refine E.non ?_
    walk_at "o"
    refine ⟨_, rfl, ?_⟩
    refine iteT (iteT ?_)
    refine W.cons ?_
    refine W1.ret ?_
    refine E.non ?_
    exact ⟨_, rfl, fun x' y' z1 z2 => by subst z1; exact ⟨none, rfl, .nl⟩⟩
  | @num a b o1 =>
    cases o2 with
    | non =>
      show W _ _ _ _ _ [some (.d (dN a b)), some (.d .non)]
      refine W.cons ?_
      refine W1.iff ?_
      refine Tw.t ?_
      refine Tw.or ?_
      refine T.cmp ?_
      refine E.var 0 rfl ?_
      refine E.non ?_
      walk_at "o"
      refine ⟨_, rfl, ?_⟩
      refine iteF ?_
      refine Tw.or1 ?_
      refine T.cmp ?_
      refine E.var 1 rfl ?_
      refine E.non ?_
      walk_at "o"
      refine ⟨_, rfl, ?_⟩
      refine iteT ?_
      refine W.cons ?_
      refine W1.ret ?_
      refine E.non ?_
      exact ⟨_, rfl, fun x' y' z1 z2 => by subst z2; exact ⟨none, rfl, .nr⟩⟩
    | @num c e o2 =>
      show W _ _ _ _ _ [some (.d (dN a b)), some (.d (dN c e))]
      refine W.cons ?_
      refine W1.iff ?_
      refine Tw.t ?_
      refine Tw.or ?_
      refine T.cmp ?_
      refine E.var 0 rfl ?_
      refine E.non ?_
      walk_at "o"
      refine ⟨_, rfl, ?_⟩
      refine iteF ?_
      refine Tw.or1 ?_
      refine T.cmp ?_
      refine E.var 1 rfl ?_
      refine E.non ?_
      walk_at "o"
      refine ⟨_, rfl, ?_⟩
      refine iteF (W.nil ?_)
      refine W.cons ?_
      refine W1.ret ?_
      refine E.dcall GLow (hr.mono (by decide)) ?_
      refine A.cons ?_
      refine E.dcall GPlus (hr.mono (by decide)) ?_
      refine A.cons ?_
      refine E.var 0 rfl ?_
      refine A.cons ?_
      refine E.var 1 rfl ?_
      refine A.nil ?_
      refine ⟨[_, _], rfl, nn o1.mono o2.mono, ?_⟩
      rintro r hr1
      have hr1 := hr1 _ _ _ _ rfl
      subst hr1
      refine A.nil ?_
      refine ⟨[_], rfl, ⟨_, _, rfl, plus_ok o1 o2⟩, ?_⟩
      rintro r hr2
      obtain ⟨p, q, rfl, hn⟩ := hr2 _ _ rfl
      exact ⟨_, rfl, fun x' y' z1 z2 => by subst z1; subst z2; exact ⟨some (p, q), rfl, .num (plus_nrm o1.1 o2.1 hn)⟩⟩
end

section
variable {P : Program} {w : World} {K : PySem.W.Frag} {mg : Str → Option Value} {base : Heap} {C CI : Addr} {f : Addr} {fd : FuncData}
abbrev KStr (P : Program) (w : World) (K : PySem.W.Frag) (mg : Str → Option Value) (base : Heap) : Prop := DOk P w K mg base CX0 "_law_stretched" 3 (spF K preStr postStr)
abbrev KJoin (P : Program) (w : World) (K : PySem.W.Frag) (mg : Str → Option Value) (base : Heap) : Prop := DOk P w K mg base CX0 "_law_joined" 3 (spF K (fun ds => ∃ x y, ds = [dE x, dE y] ∧ OkE 1900 x ∧ OkE 1900 y) fun ds r => ∀ x y, eD (a0 ds) = x → eD (a1 ds) = y → ∃ z, r = dE z ∧ AddV x y z)
abbrev sTot : Stmt := top 48
theorem scTot : FnScope ["weights", "intervals", "low", "high", "k", "ends"] ["weights", "intervals"] (defScope sTot) := ⟨rfl, rfl, rfl, by decide +kernel, rfl, by decide +kernel, by decide +kernel⟩
def preTot : List D → Prop := fun ds => ∃ ws is : List D, ds = [.lst ws, .lst is] ∧ ws.length = is.length ∧ ws.length ≤ 2 ∧ (∀ w ∈ ws, ∃ c e, w = dN c e ∧ OkK 200 c e) ∧ ∀ i ∈ is, ∃ l h, i = dI l h ∧ OkE 200 l ∧ OkE 200 h
def postTot : List D → D → Prop := fun ds r => ∃ l h, r = dI l h ∧ TV (itm (a0 ds)) (itm (a1 ds)) l h
theorem ok_tot (F : Df K mg "_law_total" sTot ["weights", "intervals"] f fd) (B : Bl mg) (GStr : KStr P w K mg base) (GJoin : KJoin P w K mg base) : FnOk P w K mg base CX0 4 f fd ["weights", "intervals"] (spF K preTot postTot) := by
  refine ok_F F.fn scTot (fun ds ⟨_, _, e, _⟩ => by rw [e]; rfl) fun cdv Ar outer sh Hp0 xE Fr ds hr hm ⟨ws, is, eq, hl, h2, hw, hi⟩ => ?_
  have nd := scTot.nd
  subst eq
  show W _ _ _ _ _ [some (.d (.lst ws)), some (.d (.lst is)), none, none, none, none]
  refine W.cons ?_
  refine W1.set 2 ?_ nd
  refine E.tup ?_
  refine A.cons ?_
  refine E.int ?_
  refine A.cons ?_
  refine E.int ?_
  refine A.nil ?_
  walk_at "disp"
  walk_at "n"
  refine W.cons ?_
  refine W1.set 3 ?_ nd
  refine E.tup ?_
  refine A.cons ?_
  refine E.int ?_
  refine A.cons ?_
  refine E.int ?_
  refine A.nil ?_
  walk_at "disp"
  walk_at "n"
  refine W.cut (fun o r => ∃ l h u v, r = [some (.d (.lst ws)), some (.d (.lst is)), some (.d (dE l)), some (.d (dE h)), u, v] ∧ TV ws is l h) ?_ ?_
  · refine W1.forR (fun i o r => ∃ l h u v, r = [some (.d (.lst ws)), some (.d (.lst is)), some (.d (dE l)), some (.d (dE h)), u, v] ∧ TV (ws.take i) (is.take i) l h ∧ OkE (402 * i + 1) l ∧ OkE (402 * i + 1) h) B.range rfl PassesOwn.never ?_
    refine E.callB B.len bt_len ?_
    refine A.cons ?_
    refine E.var 0 rfl ?_
    refine A.nil ?_
    walk_at "cl"
    refine ⟨_, rfl, ⟨by omega, by omega⟩, ⟨some (0, 1), some (0, 1), _, _, rfl, by rw [List.take_zero, List.take_zero]; exact .nil, ok01, ok01⟩, ?_, ?_⟩
    · rintro i o ρ hil ⟨l, h, u, v, rfl, tv, ol, oh⟩
      have hiw : i < ws.length := by omega
      have hii : i < is.length := by omega
      have i2 : i < 2 := by omega
      have gw : ws[i]? = some ws[i] := List.getElem?_eq_getElem hiw
      have gi : is[i]? = some is[i] := List.getElem?_eq_getElem hii
      obtain ⟨c, e, ew, ow⟩ := hw _ (List.getElem_mem hiw)
      obtain ⟨l1, h1, ei, o1, o2⟩ := hi _ (List.getElem_mem hii)
      rw [ew] at gw
      rw [ei] at gi
      have aw : atI ws (i : Int) = some (dN c e) := atI_nat gw
      have ai : atI is (i : Int) = some (dI l1 h1) := atI_nat gi
      refine Tg.name 4 ?_ nd
      refine W.cons ?_
      refine W1.set 5 ?_ nd
      refine E.dcall GStr (hr.mono (by decide)) ?_
      refine A.cons ?_
      refine E.ix ?_
      refine E.var 1 rfl ?_
      refine E.var 4 rfl ?_
      walk_at "ix"
      refine A.cons ?_
      refine E.ix ?_
      refine E.var 0 rfl ?_
      refine E.var 4 rfl ?_
      walk_at "ix"
      refine A.nil ?_
      refine ⟨[_, _], rfl, ⟨l1, h1, c, e, rfl, o1.mono, o2.mono, ow.mono⟩, ?_⟩
      rintro r hr1
      obtain ⟨l2, h2', rfl, hs⟩ := hr1 l1 h1 c e eL_dI eH_dI rfl
      have os := hs.ok o1 o2 ow (by decide)
      have b0 : 402 * i + 1 ≤ 1900 := by omega
      walk_at "n"
      refine W.cons ?_
      refine W1.set 2 ?_ nd
      refine E.dcall GJoin (hr.mono (by decide)) ?_
      refine A.cons ?_
      refine E.var 2 rfl ?_
      refine A.cons ?_
      refine E.ix ?_
      refine E.var 5 rfl ?_
      refine E.int ?_
      walk_at "ix"
      refine A.nil ?_
      refine ⟨[_, _], rfl, ⟨l, l2, rfl, ol.mono b0, os.1.mono⟩, ?_⟩
      rintro r hr2
      obtain ⟨l3, rfl, a1'⟩ := hr2 l l2 eD_dE eD_dE
      walk_at "n"
      refine W.cons ?_
      refine W1.set 3 ?_ nd
      refine E.dcall GJoin (hr.mono (by decide)) ?_
      refine A.cons ?_
      refine E.var 3 rfl ?_
      refine A.cons ?_
      refine E.ix ?_
      refine E.var 5 rfl ?_
      refine E.int ?_
      walk_at "ix"
      refine A.nil ?_
      refine ⟨[_, _], rfl, ⟨h, h2', rfl, oh.mono b0, os.2.mono⟩, ?_⟩
      rintro r hr3
      obtain ⟨h3, rfl, a2'⟩ := hr3 h h2' eD_dE eD_dE
      walk_at "n"
      refine W.nil ⟨l3, h3, _, _, rfl, ?_, (a1'.ok ol os.1).mono (by omega), (a2'.ok oh os.2).mono (by omega)⟩
      rw [List.take_succ, List.take_succ, gw, gi]
      exact .snoc tv hs a1' a2'
    · rintro o ρ ⟨l, h, u, v, rfl, tv, _⟩
      refine ⟨l, h, u, v, rfl, ?_⟩
      have e1 : ((ws.length : Int)).toNat = ws.length := by omega
      rw [e1, List.take_length, hl, List.take_length] at tv
      exact tv
  rintro o ρ ⟨l, h, u, v, rfl, tv⟩
  refine W.cons ?_
  refine W1.ret ?_
  refine E.tup ?_
  refine A.cons ?_
  refine E.var 2 rfl ?_
  refine A.cons ?_
  refine E.var 3 rfl ?_
  refine A.nil ?_
  walk_at "disp"
  exact ⟨_, rfl, l, h, rfl, tv⟩
abbrev sGiv : Stmt := top 49
theorem scGiv : FnScope ["end"] ["end"] (defScope sGiv) := ⟨rfl, rfl, rfl, by decide +kernel, rfl, by decide +kernel, by decide +kernel⟩
theorem ok_giv (F : Df K mg "_law_given_end" sGiv ["end"] f fd) (tR : RatT K mg C) (MI : IOk P w K mg base CX0 C 1 [] (spI K C ["top", "bottom"] preI postI)) : FnOk P w K mg base CX0 3 f fd ["end"] (spF K (fun ds => ∃ x, ds = [dE x] ∧ OkE 1900 x) fun ds r => ∀ x, eD (a0 ds) = x → TE C r x) := by
  refine ok_F F.fn scGiv (fun ds ⟨_, e, _⟩ => by rw [e]; rfl) fun cdv Ar outer sh Hp0 xE Fr ds hr hm ⟨x, eq, o1⟩ => ?_
  have nd := scGiv.nd
  subst eq
  cases o1 with
  | non =>
    show W _ _ _ _ _ [some (.d .non)]
    refine W.cons ?_
    refine W1.iff ?_
    refine T.cmp ?_
    refine E.var 0 rfl ?_
    refine E.non ?_
    walk_at "o"
    refine ⟨_, rfl, ?_⟩
    refine iteT ?_
    refine W.cons ?_
    refine W1.ret ?_
    refine E.non ?_
    exact ⟨_, rfl, fun x z => by subst z; exact .non⟩
  | @num a b o1 =>
    show W _ _ _ _ _ [some (.d (dN a b))]
    refine W.cons ?_
    refine W1.iff ?_
    refine T.cmp ?_
    refine E.var 0 rfl ?_
    refine E.non ?_
    walk_at "o"
    refine ⟨_, rfl, ?_⟩
    refine iteF (W.nil ?_)
    refine W.cons ?_
    refine W1.ret ?_
    refine E.dmake MI tR.mgR (hr.mono (by decide)) ?_
    refine A.cons ?_
    refine E.ix ?_
    refine E.var 0 rfl ?_
    refine E.int ?_
    walk_at "ix"
    refine A.cons ?_
    refine E.ix ?_
    refine E.var 0 rfl ?_
    refine E.int ?_
    walk_at "ix"
    refine A.nil ?_
    refine ⟨[.int _, .int _], rfl, ⟨_, _, rfl, Int.ne_of_gt o1.1, o1.2.1.mono (by decide), o1.2.2.mono (by decide)⟩, ?_⟩
    rintro fs ⟨p, q, rfl, hn⟩
    exact ⟨_, rfl, fun x z => by subst z; exact .rat hn⟩
abbrev sIvl : Stmt := top 50
theorem scIvl : FnScope ["ends"] ["ends"] (defScope sIvl) := ⟨rfl, rfl, rfl, by decide +kernel, rfl, by decide +kernel, by decide +kernel⟩
theorem ok_ivl (F : Df K mg "_law_interval" sIvl ["ends"] f fd) (tI : IvT K mg C CI) (MV : IOk P w K mg base CX0 CI 6 [] (spI K CI ["low", "high"] (preV C) postV)) (GGiv : DOk P w K mg base CX0 "_law_given_end" 3 (spF K (fun ds => ∃ x, ds = [dE x] ∧ OkE 1900 x) fun ds r => ∀ x, eD (a0 ds) = x → TE C r x)) :
    FnOk P w K mg base CX0 8 f fd ["ends"] (spF K (fun ds => ∃ l h, ds = [dI l h] ∧ OkE 1900 l ∧ OkE 1900 h ∧ lessE h l = false) fun ds r => ∀ l h, eL (a0 ds) = l → eH (a0 ds) = h → ∃ x y, r = ivl CI x y ∧ TE C x l ∧ TE C y h) := by
  refine ok_F F.fn scIvl (fun ds ⟨_, _, e, _⟩ => by rw [e]; rfl) fun cdv Ar outer sh Hp0 xE Fr ds hr hm ⟨l, h, eq, o1, o2, hb⟩ => ?_
  have nd := scIvl.nd
  subst eq
  show W _ _ _ _ _ [some (.d (dI l h))]
  refine W.cons ?_
  refine W1.ret ?_
  refine E.dmake MV tI.mgI (hr.mono (by decide)) ?_
  refine A.cons ?_
  refine E.dcall GGiv (hr.mono (by decide)) ?_
  refine A.cons ?_
  refine E.ix ?_
  refine E.var 0 rfl ?_
  refine E.int ?_
  walk_at "ix"
  refine A.nil ?_
  refine ⟨[_], rfl, ⟨_, rfl, o1⟩, ?_⟩
  rintro x hx
  have hx : TE C x l := hx l eD_dE
  refine A.cons ?_
  refine E.dcall GGiv (hr.mono (by decide)) ?_
  refine A.cons ?_
  refine E.ix ?_
  refine E.var 0 rfl ?_
  refine E.int ?_
  walk_at "ix"
  refine A.nil ?_
  refine ⟨[_], rfl, ⟨_, rfl, o2⟩, ?_⟩
  rintro y hy
  have hy : TE C y h := hy h eD_dE
  refine A.nil ?_
  refine ⟨[_, _], rfl, ⟨_, _, rfl, hx.endD o1, hy.endD o2, by rw [hx.bey hy o1 o2]; exact hb⟩, ?_⟩
  rintro fs rfl
  refine ⟨_, rfl, fun l' h' z1 z2 => ?_⟩
  have z1 : eL (dI l h) = l' := z1
  have z2 : eH (dI l h) = h' := z2
  rw [eL_dI] at z1
  rw [eH_dI] at z2
  subst z1; subst z2
  exact ⟨_, _, rfl, hx, hy⟩
abbrev sOrd : Stmt := top 52
theorem scOrd : FnScope ["low", "high"] ["low", "high"] (defScope sOrd) := ⟨rfl, rfl, rfl, by decide +kernel, rfl, by decide +kernel, by decide +kernel⟩
def postOrd : List D → D → Prop := fun ds r => ∃ l h, r = dI l h ∧ lessE h l = false ∧ ((l = eD (a0 ds) ∧ h = eD (a1 ds)) ∨ (l = eD (a1 ds) ∧ h = eD (a0 ds)))
theorem ok_ord (F : Df K mg "_law_ordered" sOrd ["low", "high"] f fd) (GLess : KLess P w K mg base) : FnOk P w K mg base CX0 2 f fd ["low", "high"] (spF K (fun ds => ∃ l h, ds = [dE l, dE h] ∧ OkE 1900 l ∧ OkE 1900 h) postOrd) := by
  refine ok_F F.fn scOrd (fun ds ⟨_, _, e, _⟩ => by rw [e]; rfl) fun cdv Ar outer sh Hp0 xE Fr ds hr hm ⟨l, h, eq, o1, o2⟩ => ?_
  have nd := scOrd.nd
  subst eq
  cases o1 with
  | non =>
    show W _ _ _ _ _ [some (.d .non), some (.d (dE h))]
    refine W.cons ?_
    refine W1.iff ?_
    refine Tw.t ?_
    refine Tw.and ?_
    refine T.cmp ?_
    refine E.var 0 rfl ?_
    refine E.non ?_
    walk_at "o"
    refine ⟨_, rfl, ?_⟩
    refine iteF (W.nil ?_)
    refine W.cons ?_
    refine W1.ret ?_
    refine E.tup ?_
    refine A.cons ?_
    refine E.var 0 rfl ?_
    refine A.cons ?_
    refine E.var 1 rfl ?_
    refine A.nil ?_
    walk_at "disp"
    exact ⟨_, rfl, none, h, rfl, lessE_nr, .inl ⟨rfl, eD_dE.symm⟩⟩
  | @num a b o1 =>
    cases o2 with
    | non =>
      show W _ _ _ _ _ [some (.d (dN a b)), some (.d .non)]
      refine W.cons ?_
      refine W1.iff ?_
      refine Tw.t ?_
      refine Tw.and ?_
      refine T.cmp ?_
      refine E.var 0 rfl ?_
      refine E.non ?_
      walk_at "o"
      refine ⟨_, rfl, ?_⟩
      refine iteT ?_
      refine Tw.and ?_
      refine T.cmp ?_
      refine E.var 1 rfl ?_
      refine E.non ?_
      walk_at "o"
      refine ⟨_, rfl, ?_⟩
      refine iteF (W.nil ?_)
      refine W.cons ?_
      refine W1.ret ?_
      refine E.tup ?_
      refine A.cons ?_
      refine E.var 0 rfl ?_
      refine A.cons ?_
      refine E.var 1 rfl ?_
      refine A.nil ?_
      walk_at "disp"
      exact ⟨_, rfl, some (a, b), none, rfl, rfl, .inl ⟨rfl, rfl⟩⟩
    | @num c e o2 =>
      show W _ _ _ _ _ [some (.d (dN a b)), some (.d (dN c e))]
      refine W.cons ?_
      refine W1.iff ?_
      refine Tw.t ?_
      refine Tw.and ?_
      refine T.cmp ?_
      refine E.var 0 rfl ?_
      refine E.non ?_
      walk_at "o"
      refine ⟨_, rfl, ?_⟩
      refine iteT ?_
      refine Tw.and ?_
      refine T.cmp ?_
      refine E.var 1 rfl ?_
      refine E.non ?_
      walk_at "o"
      refine ⟨_, rfl, ?_⟩
      refine iteT ?_
      refine Tw.and1 ?_
      refine T.truth ?_
      refine E.dcall GLess (hr.mono (by decide)) ?_
      refine A.cons ?_
      refine E.var 1 rfl ?_
      refine A.cons ?_
      refine E.var 0 rfl ?_
      refine A.nil ?_
      refine ⟨[_, _], rfl, nn o2.mono o1.mono, ?_⟩
      rintro r hr1
      have hr1 := hr1 _ _ _ _ rfl
      subst hr1
      walk_at "tr"
      refine ifd (fun hz => ?_) (fun hz => W.nil ?_)
      · skip
        refine W.cons ?_
        refine W1.ret ?_
        refine E.tup ?_
        refine A.cons ?_
        refine E.var 1 rfl ?_
        refine A.cons ?_
        refine E.var 0 rfl ?_
        refine A.nil ?_
        walk_at "disp"
        exact ⟨_, rfl, some (c, e), some (a, b), rfl, decide_eq_false (by omega), .inr ⟨rfl, rfl⟩⟩
      · skip
        refine W.cons ?_
        refine W1.ret ?_
        refine E.tup ?_
        refine A.cons ?_
        refine E.var 0 rfl ?_
        refine A.cons ?_
        refine E.var 1 rfl ?_
        refine A.nil ?_
        walk_at "disp"
        exact ⟨_, rfl, some (a, b), some (c, e), rfl, decide_eq_false hz, .inl ⟨rfl, rfl⟩⟩
end

section
variable {P : Program} {w : World} {K : PySem.W.Frag} {mg : Str → Option Value} {base : Heap} {C CI : Addr} {f : Addr} {fd : FuncData}
abbrev KTake (P : Program) (w : World) (K : PySem.W.Frag) (mg : Str → Option Value) (base : Heap) : Prop := DOk P w K mg base CX0 "_law_take" 1 (spP K PoolI preTake postTake)
def preNil : List D → Prop := fun ds => ds = []
theorem tkq {own : List Cell} {n : Nat} {m : Int} {Q : D → Prop} (hc : own[n]? = some (.any PoolI)) (hm : m.natAbs < 2 ^ 1000) (hm2 : 2 ≤ m) (h : ∀ r : Int, 0 ≤ r → r < m → Q (.int r)) :
    ∃ (n' : Nat) (ds : List D), (.c n :: [R.d (.int m)]) = .c n' :: ds.map R.d ∧ own[n']? = some (.any PoolI) ∧ preTake ds ∧ ∀ d, postTake ds d → Q d :=
  ⟨n, [.int m], rfl, hc, ⟨m, rfl, hm⟩, fun d ⟨m', r, e, ed, h0, h1, _⟩ => by
    cases e; subst ed; exact h r h0 (h1 hm2)⟩
def postWide : List D → D → Prop := fun _ d => ∃ r : Int, d = .int r ∧ 0 ≤ r ∧ r < 10 ^ 54
abbrev KWide (P : Program) (w : World) (K : PySem.W.Frag) (mg : Str → Option Value) (base : Heap) : Prop := DOk P w K mg base CX0 "_law_wide_number" 2 (spP K PoolI preNil postWide)
theorem wdq {own : List Cell} {n : Nat} {Q : D → Prop} (hc : own[n]? = some (.any PoolI)) (h : ∀ r : Int, 0 ≤ r → r < 10 ^ 54 → Q (.int r)) :
    ∃ (n' : Nat) (ds : List D), (.c n :: ([] : List R)) = .c n' :: ds.map R.d ∧ own[n']? = some (.any PoolI) ∧ preNil ds ∧ ∀ d, postWide ds d → Q d :=
  ⟨n, [], rfl, hc, rfl, fun d ⟨r, ed, h0, h1⟩ => by subst ed; exact h r h0 h1⟩
abbrev sWide : Stmt := top 34
theorem scWide : FnScope ["pool", "number", "k"] ["pool"] (defScope sWide) := ⟨rfl, rfl, rfl, by decide +kernel, rfl, by decide +kernel, by decide +kernel⟩
theorem ok_wide (F : Df K mg "_law_wide_number" sWide ["pool"] f fd) (B : Bl mg) (GTake : KTake P w K mg base) : FnOk P w K mg base CX0 2 f fd ["pool"] (spP K PoolI preNil postWide) := by
  refine ok_P F.fn scWide (fun ds e => by rw [e]; rfl) fun cdv Ar outer sh Hp0 xE Fr ds hr e => ?_
  have nd := scWide.nd
  subst e
  show W _ _ _ _ _ [some (.c 0), none, none]
  refine W.cons ?_
  refine W1.set 1 ?_ nd
  refine E.int ?_
  walk_at "n"
  refine W.cut (fun o r => o = [.any PoolI] ∧ ∃ (n : Int) (v : Option R), r = [some (.c 0), some (.d (.int n)), v]) ?_ ?_
  · refine W1.forR (fun i o r => o = [.any PoolI] ∧ ∃ (n : Int) (v : Option R), r = [some (.c 0), some (.d (.int n)), v]) B.range rfl PassesOwn.never ?_
    refine E.int ?_
    refine ⟨_, rfl, ⟨by decide, by decide⟩, ⟨rfl, _, _, rfl⟩, ?_, ?_⟩
    · rintro i o ρ hi ⟨rfl, n, v, rfl⟩
      refine Tg.name 2 ?_ nd
      refine W.cons ?_
      refine W1.set 1 ?_ nd
      refine E.bin ?_
      refine E.bin ?_
      refine E.var 1 rfl ?_
      refine E.bin ?_
      refine E.int ?_
      refine E.int ?_
      walk_at "o"
      walk_at "o"
      refine E.dcallP GTake (hr.mono (by decide)) ?_
      refine A.cons ?_
      refine E.var 0 rfl ?_
      refine A.cons ?_
      refine E.bin ?_
      refine E.int ?_
      refine E.int ?_
      walk_at "o"
      refine A.nil ?_
      refine tkq rfl (by decide) (by decide) fun r h0 h1 => ?_
      walk_at "o"
      walk_at "n"
      exact W.nil ⟨rfl, _, _, rfl⟩
    · rintro o ρ ⟨rfl, n, v, rfl⟩
      exact ⟨rfl, n, v, rfl⟩
  rintro o ρ ⟨rfl, n, v, rfl⟩
  refine W.cons ?_
  refine W1.ret ?_
  refine E.bin ?_
  refine E.callTy B.int bt_int ?_
  refine A.cons ?_
  refine E.var 1 rfl ?_
  refine A.nil ?_
  walk_at "cl"
  refine E.bin ?_
  refine E.int ?_
  refine E.int ?_
  walk_at "o"
  walk_at "o"
  exact ⟨.inl rfl, _, rfl, _, rfl, Int.emod_nonneg _ (by decide), Int.emod_lt_of_pos _ (by decide)⟩
abbrev postFar : List D → D → Prop := fun _ d => ∃ e, d = dE e ∧ OkE 190 e
theorem low_ok {k : Nat} {a b p q : Int} (h : Nrm a b p q) (o : OkK k a b) : OkK k p q := by
  have l := h.le (Int.ne_of_gt o.1)
  exact ⟨h.1, o.2.1.le l.1, o.2.2.le l.2⟩
theorem wide_ok {r s : Int} (h0 : 0 ≤ r) (h1 : r < 10 ^ 54) (g0 : 0 ≤ s) (g1 : s < 10 ^ 54) : OkK 190 (r - 5 * 10 ^ Int.toNat 53) (1 + s) :=
  ⟨by omega, ((Bd.of_lt h0 h1 (Bd.lit (k := 185))).sub (Bd.lit (k := 185))).mono (by decide), ((Bd.lit (k := 185)).add (Bd.of_lt g0 g1 (Bd.lit (k := 185)))).mono (by decide)⟩
theorem small_ok {a b m n : Int} {k : Nat} (h0 : -m < a) (h1 : a < m) (g0 : 0 < b) (g1 : b < n) (hm : Bd k m) (hn : Bd k n) : OkK k a b :=
  ⟨g0, hm.le (by omega), hn.le (by omega)⟩
abbrev sFar : Stmt := top 35
theorem scFar : FnScope ["pool", "kind"] ["pool"] (defScope sFar) := ⟨rfl, rfl, rfl, by decide +kernel, rfl, by decide +kernel, by decide +kernel⟩
theorem ok_far (F : Df K mg "_law_far_end" sFar ["pool"] f fd) (B : Bl mg) (GTake : KTake P w K mg base) (GWide : KWide P w K mg base) (GLow : KLow P w K mg base) : FnOk P w K mg base CX0 3 f fd ["pool"] (spP K PoolI preNil postFar) := by
  refine ok_P F.fn scFar (fun ds e => by rw [e]; rfl) fun cdv Ar outer sh Hp0 xE Fr ds hr e => ?_
  have nd := scFar.nd
  subst e
  show W _ _ _ _ _ [some (.c 0), none]
  refine W.cons ?_
  refine W1.set 1 ?_ nd
  refine E.dcallP GTake (hr.mono (by decide)) ?_
  refine A.cons ?_
  refine E.var 0 rfl ?_
  refine A.cons ?_
  refine E.int ?_
  refine A.nil ?_
  refine tkq rfl (by decide) (by decide) fun kd k0 k1 => ?_
  walk_at "n"
  refine W.cons ?_
  refine W1.iff ?_
  refine T.cmp ?_
  refine E.var 1 rfl ?_
  refine E.int ?_
  walk_at "o"
  refine ⟨_, rfl, ?_⟩
  refine ifd (fun h => ?_) (fun h => W.nil ?_)
  · skip
    refine W.cons ?_
    refine W1.ret ?_
    refine E.non ?_
    exact ⟨.inl rfl, _, rfl, none, rfl, .non⟩
  refine W.cons ?_
  refine W1.iff ?_
  refine T.cmp ?_
  refine E.var 1 rfl ?_
  refine E.int ?_
  walk_at "o"
  refine ⟨_, rfl, ?_⟩
  refine ifd (fun h => ?_) (fun h => W.nil ?_)
  · skip
    refine W.cons ?_
    refine W1.ret ?_
    refine E.dcall GLow (hr.mono (by decide)) ?_
    refine A.cons ?_
    refine E.tup ?_
    refine A.cons ?_
    refine E.bin ?_
    refine E.dcallP GWide (hr.mono (by decide)) ?_
    refine A.cons ?_
    refine E.var 0 rfl ?_
    refine A.nil ?_
    refine wdq rfl fun r h0 h1 => ?_
    refine E.bin ?_
    refine E.int ?_
    refine E.bin ?_
    refine E.int ?_
    refine E.int ?_
    walk_at "o"
    walk_at "o"
    walk_at "o"
    refine A.cons ?_
    refine E.bin ?_
    refine E.int ?_
    refine E.dcallP GWide (hr.mono (by decide)) ?_
    refine A.cons ?_
    refine E.var 0 rfl ?_
    refine A.nil ?_
    refine wdq rfl fun s g0 g1 => ?_
    walk_at "o"
    refine A.nil ?_
    walk_at "disp"
    refine A.nil ?_
    have ok := wide_ok h0 h1 g0 g1
    refine ⟨[_], rfl, ⟨_, _, rfl, ok.mono⟩, ?_⟩
    rintro r hr1
    obtain ⟨p, q, rfl, hn⟩ := hr1 _ _ rfl
    exact ⟨.inl rfl, _, rfl, some (p, q), rfl, .num (low_ok hn ok)⟩
  refine W.cons ?_
  refine W1.ret ?_
  refine E.dcall GLow (hr.mono (by decide)) ?_
  refine A.cons ?_
  refine E.tup ?_
  refine A.cons ?_
  refine E.bin ?_
  refine E.dcallP GTake (hr.mono (by decide)) ?_
  refine A.cons ?_
  refine E.var 0 rfl ?_
  refine A.cons ?_
  refine E.int ?_
  refine A.nil ?_
  refine tkq rfl (by decide) (by decide) fun r h0 h1 => ?_
  refine E.int ?_
  walk_at "o"
  refine A.cons ?_
  refine E.bin ?_
  refine E.int ?_
  refine E.dcallP GTake (hr.mono (by decide)) ?_
  refine A.cons ?_
  refine E.var 0 rfl ?_
  refine A.cons ?_
  refine E.int ?_
  refine A.nil ?_
  refine tkq rfl (by decide) (by decide) fun s g0 g1 => ?_
  walk_at "o"
  refine A.nil ?_
  walk_at "disp"
  refine A.nil ?_
  have ok : OkK 190 (r - 6) (1 + s) := (small_ok (m := 13) (n := 13) (k := 4) (by omega) (by omega) (by omega) (by omega) Bd.lit Bd.lit).mono
  refine ⟨[_], rfl, ⟨_, _, rfl, ok.mono⟩, ?_⟩
  rintro r hr1
  obtain ⟨p, q, rfl, hn⟩ := hr1 _ _ rfl
  exact ⟨.inl rfl, _, rfl, some (p, q), rfl, .num (low_ok hn ok)⟩
end

section
variable {P : Program} {w : World} {K : PySem.W.Frag} {mg : Str → Option Value} {base : Heap} {C CI : Addr} {f : Addr} {fd : FuncData}
theorem up_le {p q e t p2 q2 : Int} (hq : 0 < q) (he : 0 < e) (ht : 0 ≤ t) (h : Nrm (p * e + t * q) (q * e) p2 q2) : lessE (some (p2, q2)) (some (p, q)) = false := by
  refine decide_eq_false fun z => ?_
  have z2 := (Int.mul_lt_mul_right (Int.mul_pos hq he)).mpr z
  have e1 := h.2.1
  have x1 : p2 * q * (q * e) = p * q2 * (q * e) + t * (q * q2 * q) := by grind
  have x2 : 0 ≤ t * (q * q2 * q) := Int.mul_nonneg ht (Int.le_of_lt (Int.mul_pos (Int.mul_pos hq h.1) hq))
  omega
abbrev sSecond : Stmt := top 53
theorem scSecond : FnScope ["pool", "one", "kind", "start"] ["pool", "one"] (defScope sSecond) := ⟨rfl, rfl, rfl, by decide +kernel, rfl, by decide +kernel, by decide +kernel⟩
def preSec : List D → Prop := fun ds => ∃ l h, ds = [dI l h] ∧ OkE 190 l ∧ OkE 190 h
def postSec : List D → D → Prop := fun _ d => ∃ l h, d = dI l h ∧ OkE 200 l ∧ OkE 200 h ∧ lessE h l = false
theorem ok_second (F : Df K mg "_law_second" sSecond ["pool", "one"] f fd) (GTake : KTake P w K mg base) (GLow : KLow P w K mg base) (GPlus : KPlus P w K mg base) (GFar : DOk P w K mg base CX0 "_law_far_end" 3 (spP K PoolI preNil postFar)) (GOrd : DOk P w K mg base CX0 "_law_ordered" 2 (spF K (fun ds => ∃ l h, ds = [dE l, dE h] ∧ OkE 1900 l ∧ OkE 1900 h) postOrd)) :
    FnOk P w K mg base CX0 4 f fd ["pool", "one"] (spP K PoolI preSec postSec) := by
  refine ok_P F.fn scSecond (fun ds ⟨_, _, e, _⟩ => by rw [e]; rfl) fun cdv Ar outer sh Hp0 xE Fr ds hr ⟨l, h, e, o1, o2⟩ => ?_
  have nd := scSecond.nd
  subst e
  show W _ _ _ _ _ [some (.c 0), some (.d (dI l h)), none, none]
  refine W.cons ?_
  refine W1.set 2 ?_ nd
  refine E.dcallP GTake (hr.mono (by decide)) ?_
  refine A.cons ?_
  refine E.var 0 rfl ?_
  refine A.cons ?_
  refine E.int ?_
  refine A.nil ?_
  refine tkq rfl (by decide) (by decide) fun kd k0 k1 => ?_
  walk_at "n"
  refine W.cut (fun o r => o = [.any PoolI] ∧ r = [some (.c 0), some (.d (dI l h)), some (.d (.int kd)), none]) ?_ ?_
  · cases o2 with
    | non =>
      show W1 _ _ _ _ _ [some (.c 0), some (.d (dI l none)), some (.d (.int kd)), none]
      refine W1.iff ?_
      refine Tw.t ?_
      refine Tw.and ?_
      refine T.cmp ?_
      refine E.var 2 rfl ?_
      refine E.int ?_
      walk_at "o"
      refine ⟨_, rfl, ?_⟩
      refine ifd (fun hk => ?_) (fun hk => iteF (W.nil ⟨rfl, rfl⟩))
      refine Tw.and1 ?_
      refine T.cmp ?_
      refine E.ix ?_
      refine E.var 1 rfl ?_
      refine E.int ?_
      walk_at "ix"
      refine E.non ?_
      walk_at "o"
      refine ⟨_, rfl, ?_⟩
      exact iteF (W.nil ⟨rfl, rfl⟩)
    | @num a b o2 =>
      show W1 _ _ _ _ _ [some (.c 0), some (.d (dI l (some (a, b)))), some (.d (.int kd)), none]
      refine W1.iff ?_
      refine Tw.t ?_
      refine Tw.and ?_
      refine T.cmp ?_
      refine E.var 2 rfl ?_
      refine E.int ?_
      walk_at "o"
      refine ⟨_, rfl, ?_⟩
      refine ifd (fun hk => ?_) (fun hk => iteF (W.nil ⟨rfl, rfl⟩))
      refine Tw.and1 ?_
      refine T.cmp ?_
      refine E.ix ?_
      refine E.var 1 rfl ?_
      refine E.int ?_
      walk_at "ix"
      refine E.non ?_
      walk_at "o"
      refine ⟨_, rfl, ?_⟩
      refine iteT ?_
      refine W.cons ?_
      refine W1.set 3 ?_ nd
      refine E.dcall GLow (hr.mono (by decide)) ?_
      refine A.cons ?_
      refine E.dcall GPlus (hr.mono (by decide)) ?_
      refine A.cons ?_
      refine E.ix ?_
      refine E.var 1 rfl ?_
      refine E.int ?_
      walk_at "ix"
      refine A.cons ?_
      refine E.tup ?_
      refine A.cons ?_
      refine E.bin ?_
      refine E.dcallP GTake (hr.mono (by decide)) ?_
      refine A.cons ?_
      refine E.var 0 rfl ?_
      refine A.cons ?_
      refine E.int ?_
      refine A.nil ?_
      refine tkq rfl (by decide) (by decide) fun r h0 h1 => ?_
      refine E.int ?_
      walk_at "o"
      refine A.cons ?_
      refine E.bin ?_
      refine E.int ?_
      refine E.dcallP GTake (hr.mono (by decide)) ?_
      refine A.cons ?_
      refine E.var 0 rfl ?_
      refine A.cons ?_
      refine E.int ?_
      refine A.nil ?_
      refine tkq rfl (by decide) (by decide) fun s g0 g1 => ?_
      walk_at "o"
      refine A.nil ?_
      walk_at "disp"
      refine A.nil ?_
      have os : OkK 2 (r - 1) (1 + s) := small_ok (m := 3) (n := 3) (by omega) (by omega) (by omega) (by omega) Bd.lit Bd.lit
      refine ⟨[_, _], rfl, nn o2.mono os.mono, ?_⟩
      rintro x hx
      have hx := hx _ _ _ _ rfl
      subst hx
      refine A.nil ?_
      refine ⟨[_], rfl, ⟨_, _, rfl, plus_ok (k := 190) o2 os.mono⟩, ?_⟩
      rintro x hx
      obtain ⟨p, q, rfl, hn⟩ := hx _ _ rfl
      have hn := plus_nrm o2.1 os.1 hn
      have op : OkK 193 p q := ((AddV.num hn).ok (.num o2) (.num os)).num'
      walk_at "n"
      refine W.cons ?_
      refine W1.iff ?_
      refine T.cmp ?_
      refine E.var 2 rfl ?_
      refine E.int ?_
      walk_at "o"
      refine ⟨_, rfl, ?_⟩
      refine ifd (fun hk0 => ?_) (fun hk0 => W.nil ?_)
      · skip
        refine W.cons ?_
        refine W1.ret ?_
        refine E.tup ?_
        refine A.cons ?_
        refine E.var 3 rfl ?_
        refine A.cons ?_
        refine E.non ?_
        refine A.nil ?_
        walk_at "disp"
        exact ⟨.inl rfl, _, rfl, some (p, q), none, rfl, .num op.mono, .non, rfl⟩
      refine W.cons ?_
      refine W1.ret ?_
      refine E.tup ?_
      refine A.cons ?_
      refine E.var 3 rfl ?_
      refine A.cons ?_
      refine E.dcall GLow (hr.mono (by decide)) ?_
      refine A.cons ?_
      refine E.dcall GPlus (hr.mono (by decide)) ?_
      refine A.cons ?_
      refine E.var 3 rfl ?_
      refine A.cons ?_
      refine E.tup ?_
      refine A.cons ?_
      refine E.dcallP GTake (hr.mono (by decide)) ?_
      refine A.cons ?_
      refine E.var 0 rfl ?_
      refine A.cons ?_
      refine E.int ?_
      refine A.nil ?_
      refine tkq rfl (by decide) (by decide) fun t t0 t1 => ?_
      refine A.cons ?_
      refine E.bin ?_
      refine E.int ?_
      refine E.dcallP GTake (hr.mono (by decide)) ?_
      refine A.cons ?_
      refine E.var 0 rfl ?_
      refine A.cons ?_
      refine E.int ?_
      refine A.nil ?_
      refine tkq rfl (by decide) (by decide) fun u u0 u1 => ?_
      walk_at "o"
      refine A.nil ?_
      walk_at "disp"
      refine A.nil ?_
      have ot : OkK 3 t (1 + u) := small_ok (m := 4) (n := 4) (by omega) (by omega) (by omega) (by omega) Bd.lit Bd.lit
      refine ⟨[_, _], rfl, nn op.mono ot.mono, ?_⟩
      rintro x hx
      have hx := hx _ _ _ _ rfl
      subst hx
      refine A.nil ?_
      refine ⟨[_], rfl, ⟨_, _, rfl, plus_ok (k := 193) op ot.mono⟩, ?_⟩
      rintro x hx
      obtain ⟨p2, q2, rfl, hn2⟩ := hx _ _ rfl
      have hn2 := plus_nrm op.1 ot.1 hn2
      have op2 : OkK 197 p2 q2 := ((AddV.num hn2).ok (.num op) (.num ot)).num'
      refine A.nil ?_
      walk_at "disp"
      exact ⟨.inl rfl, _, rfl, some (p, q), some (p2, q2), rfl, .num op.mono, .num op2.mono, up_le op.1 ot.1 t0 hn2⟩
  rintro o ρ ⟨rfl, rfl⟩
  refine W.cons ?_
  refine W1.ret ?_
  refine E.dcall GOrd (hr.mono (by decide)) ?_
  refine A.cons ?_
  refine E.dcallP GFar (hr.mono (by decide)) ?_
  refine A.cons ?_
  refine E.var 0 rfl ?_
  refine A.nil ?_
  refine ⟨0, [], rfl, rfl, rfl, ?_⟩
  rintro _ ⟨x, rfl, ox⟩
  refine A.cons ?_
  refine E.dcallP GFar (hr.mono (by decide)) ?_
  refine A.cons ?_
  refine E.var 0 rfl ?_
  refine A.nil ?_
  refine ⟨0, [], rfl, rfl, rfl, ?_⟩
  rintro _ ⟨y, rfl, oy⟩
  refine A.nil ?_
  refine ⟨[_, _], rfl, ⟨_, _, rfl, ox.mono, oy.mono⟩, ?_⟩
  rintro _ ⟨l', h', rfl, hb, hz⟩
  have hz : (l' = eD (dE x) ∧ h' = eD (dE y)) ∨ (l' = eD (dE y) ∧ h' = eD (dE x)) := hz
  rw [eD_dE, eD_dE] at hz
  rcases hz with ⟨rfl, rfl⟩ | ⟨rfl, rfl⟩
  · exact ⟨.inl rfl, _, rfl, _, _, rfl, ox.mono, oy.mono, hb⟩
  · exact ⟨.inl rfl, _, rfl, _, _, rfl, oy.mono, ox.mono, hb⟩
abbrev sBeside : Stmt := top 54
theorem scBeside : FnScope ["pool", "one", "end"] ["pool", "one"] (defScope sBeside) := ⟨rfl, rfl, rfl, by decide +kernel, rfl, by decide +kernel, by decide +kernel⟩
def postBes : List D → D → Prop := fun _ d => ∃ a b, d = dN a b ∧ OkK 215 a b
def preBes : List D → Prop := fun ds => ∃ l h, ds = [dI l h] ∧ OkE 200 l ∧ OkE 200 h
theorem ok_beside (F : Df K mg "_law_beside" sBeside ["pool", "one"] f fd) (GTake : KTake P w K mg base) (GLow : KLow P w K mg base) (GPlus : KPlus P w K mg base) : FnOk P w K mg base CX0 3 f fd ["pool", "one"] (spP K PoolI preBes postBes) := by
  refine ok_P F.fn scBeside (fun ds ⟨_, _, e, _⟩ => by rw [e]; rfl) fun cdv Ar outer sh Hp0 xE Fr ds hr ⟨l, h, e, o1, o2⟩ => ?_
  have nd := scBeside.nd
  subst e
  show W _ _ _ _ _ [some (.c 0), some (.d (dI l h)), none]
  refine W.cons ?_
  refine W1.set 2 ?_ nd
  refine E.ix ?_
  refine E.var 1 rfl ?_
  refine E.dcallP GTake (hr.mono (by decide)) ?_
  refine A.cons ?_
  refine E.var 0 rfl ?_
  refine A.cons ?_
  refine E.int ?_
  refine A.nil ?_
  refine tkq rfl (by decide) (by decide) fun r h0 h1 => ?_
  obtain ⟨x, hx, ox⟩ : ∃ x, atI [dE l, dE h] r = some (dE x) ∧ OkE 200 x := by
    have : r = 0 ∨ r = 1 := by omega
    rcases this with z | z <;> rw [z]
    · exact ⟨l, at0, o1⟩
    · exact ⟨h, at1, o2⟩
  walk_at "ix"
  walk_at "n"
  cases ox with
  | non =>
    show W _ _ _ _ _ [some (.c 0), some (.d (dI l h)), some (.d .non)]
    refine W.cons ?_
    refine W1.iff ?_
    refine Tw.t ?_
    refine Tw.or ?_
    refine T.cmp ?_
    refine E.var 2 rfl ?_
    refine E.non ?_
    walk_at "o"
    refine ⟨_, rfl, ?_⟩
    refine iteT (iteT ?_)
    refine W.cons ?_
    refine W1.ret ?_
    refine E.dcall GLow (hr.mono (by decide)) ?_
    refine A.cons ?_
    refine E.tup ?_
    refine A.cons ?_
    refine E.bin ?_
    refine E.dcallP GTake (hr.mono (by decide)) ?_
    refine A.cons ?_
    refine E.var 0 rfl ?_
    refine A.cons ?_
    refine E.int ?_
    refine A.nil ?_
    refine tkq rfl (by decide) (by decide) fun r h0 h1 => ?_
    refine E.int ?_
    walk_at "o"
    refine A.cons ?_
    refine E.bin ?_
    refine E.int ?_
    refine E.dcallP GTake (hr.mono (by decide)) ?_
    refine A.cons ?_
    refine E.var 0 rfl ?_
    refine A.cons ?_
    refine E.int ?_
    refine A.nil ?_
    refine tkq rfl (by decide) (by decide) fun s g0 g1 => ?_
    walk_at "o"
    refine A.nil ?_
    walk_at "disp"
    refine A.nil ?_
    have ok : OkK 215 (r - 10) (1 + s) := (small_ok (m := 21) (n := 21) (k := 5) (by omega) (by omega) (by omega) (by omega) Bd.lit Bd.lit).mono
    refine ⟨[_], rfl, ⟨_, _, rfl, ok.mono⟩, ?_⟩
    rintro x hx
    obtain ⟨p, q, rfl, hn⟩ := hx _ _ rfl
    exact ⟨.inl rfl, _, rfl, p, q, rfl, low_ok hn ok⟩
  | @num a b ox =>
    show W _ _ _ _ _ [some (.c 0), some (.d (dI l h)), some (.d (dN a b))]
    refine W.cons ?_
    refine W1.iff ?_
    refine Tw.t ?_
    refine Tw.or ?_
    refine T.cmp ?_
    refine E.var 2 rfl ?_
    refine E.non ?_
    walk_at "o"
    refine ⟨_, rfl, ?_⟩
    refine iteF ?_
    refine Tw.or1 ?_
    refine T.cmp ?_
    refine E.dcallP GTake (hr.mono (by decide)) ?_
    refine A.cons ?_
    refine E.var 0 rfl ?_
    refine A.cons ?_
    refine E.int ?_
    refine A.nil ?_
    refine tkq rfl (by decide) (by decide) fun z z0 z1 => ?_
    refine E.int ?_
    walk_at "o"
    refine ⟨_, rfl, ?_⟩
    refine ifd (fun hz => ?_) (fun hz => W.nil ?_)
    · skip
      refine W.cons ?_
      refine W1.ret ?_
      refine E.dcall GLow (hr.mono (by decide)) ?_
      refine A.cons ?_
      refine E.tup ?_
      refine A.cons ?_
      refine E.bin ?_
      refine E.dcallP GTake (hr.mono (by decide)) ?_
      refine A.cons ?_
      refine E.var 0 rfl ?_
      refine A.cons ?_
      refine E.int ?_
      refine A.nil ?_
      refine tkq rfl (by decide) (by decide) fun r h0 h1 => ?_
      refine E.int ?_
      walk_at "o"
      refine A.cons ?_
      refine E.bin ?_
      refine E.int ?_
      refine E.dcallP GTake (hr.mono (by decide)) ?_
      refine A.cons ?_
      refine E.var 0 rfl ?_
      refine A.cons ?_
      refine E.int ?_
      refine A.nil ?_
      refine tkq rfl (by decide) (by decide) fun s g0 g1 => ?_
      walk_at "o"
      refine A.nil ?_
      walk_at "disp"
      refine A.nil ?_
      have ok : OkK 215 (r - 10) (1 + s) := (small_ok (m := 21) (n := 21) (k := 5) (by omega) (by omega) (by omega) (by omega) Bd.lit Bd.lit).mono
      refine ⟨[_], rfl, ⟨_, _, rfl, ok.mono⟩, ?_⟩
      rintro x hx
      obtain ⟨p, q, rfl, hn⟩ := hx _ _ rfl
      exact ⟨.inl rfl, _, rfl, p, q, rfl, low_ok hn ok⟩
    · skip
      refine W.cons ?_
      refine W1.ret ?_
      refine E.dcall GLow (hr.mono (by decide)) ?_
      refine A.cons ?_
      refine E.dcall GPlus (hr.mono (by decide)) ?_
      refine A.cons ?_
      refine E.var 2 rfl ?_
      refine A.cons ?_
      refine E.tup ?_
      refine A.cons ?_
      refine E.bin ?_
      refine E.dcallP GTake (hr.mono (by decide)) ?_
      refine A.cons ?_
      refine E.var 0 rfl ?_
      refine A.cons ?_
      refine E.int ?_
      refine A.nil ?_
      refine tkq rfl (by decide) (by decide) fun r h0 h1 => ?_
      refine E.int ?_
      walk_at "o"
      refine A.cons ?_
      refine E.ix ?_
      refine E.lst ?_
      refine A.cons ?_
      refine E.int ?_
      refine A.cons ?_
      refine E.int ?_
      refine A.nil ?_
      walk_at "disp"
      refine E.dcallP GTake (hr.mono (by decide)) ?_
      refine A.cons ?_
      refine E.var 0 rfl ?_
      refine A.cons ?_
      refine E.int ?_
      refine A.nil ?_
      refine tkq rfl (by decide) (by decide) fun s g0 g1 => ?_
      obtain ⟨v, hv, v0, v1⟩ : ∃ v : Int, atI [D.int 1, D.int 1000] s = some (.int v) ∧ 0 < v ∧ v < 1001 := by
        have : s = 0 ∨ s = 1 := by omega
        rcases this with z | z <;> rw [z]
        · exact ⟨1, at0, by decide, by decide⟩
        · exact ⟨1000, at1, by decide, by decide⟩
      walk_at "ix"
      refine A.nil ?_
      walk_at "disp"
      refine A.nil ?_
      have os : OkK 10 (r - 1) v := small_ok (m := 3) (n := 1001) (by omega) (by omega) (by omega) (by omega) Bd.lit Bd.lit
      refine ⟨[_, _], rfl, nn ox.mono os.mono, ?_⟩
      rintro x hx
      have hx := hx _ _ _ _ rfl
      subst hx
      refine A.nil ?_
      refine ⟨[_], rfl, ⟨_, _, rfl, plus_ok (k := 200) ox os.mono⟩, ?_⟩
      rintro x hx
      obtain ⟨p, q, rfl, hn⟩ := hx _ _ rfl
      have hn := plus_nrm ox.1 os.1 hn
      exact ⟨.inl rfl, _, rfl, p, q, rfl, (((AddV.num hn).ok (.num ox) (.num os)).num' : OkK 211 p q).mono⟩
abbrev sFactor : Stmt := top 55
theorem scFactor : FnScope ["pool", "kind"] ["pool"] (defScope sFactor) := ⟨rfl, rfl, rfl, by decide +kernel, rfl, by decide +kernel, by decide +kernel⟩
theorem ok_factor (F : Df K mg "_law_factor" sFactor ["pool"] f fd) (GTake : KTake P w K mg base) (GWide : KWide P w K mg base) (GLow : KLow P w K mg base) : FnOk P w K mg base CX0 3 f fd ["pool"] (spP K PoolI preNil fun _ d => ∃ a b, d = dN a b ∧ OkK 190 a b) := by
  refine ok_P F.fn scFactor (fun ds e => by rw [e]; rfl) fun cdv Ar outer sh Hp0 xE Fr ds hr e => ?_
  have nd := scFactor.nd
  subst e
  show W _ _ _ _ _ [some (.c 0), none]
  refine W.cons ?_
  refine W1.set 1 ?_ nd
  refine E.dcallP GTake (hr.mono (by decide)) ?_
  refine A.cons ?_
  refine E.var 0 rfl ?_
  refine A.cons ?_
  refine E.int ?_
  refine A.nil ?_
  refine tkq rfl (by decide) (by decide) fun kd k0 k1 => ?_
  walk_at "n"
  refine W.cons ?_
  refine W1.iff ?_
  refine T.cmp ?_
  refine E.var 1 rfl ?_
  refine E.int ?_
  walk_at "o"
  refine ⟨_, rfl, ?_⟩
  refine ifd (fun h => ?_) (fun h => W.nil ?_)
  · skip
    refine W.cons ?_
    refine W1.ret ?_
    refine E.tup ?_
    refine A.cons ?_
    refine E.int ?_
    refine A.cons ?_
    refine E.int ?_
    refine A.nil ?_
    walk_at "disp"
    exact ⟨.inl rfl, _, rfl, 0, 1, rfl, by decide, Bd.lit, Bd.lit⟩
  refine W.cons ?_
  refine W1.iff ?_
  refine T.cmp ?_
  refine E.var 1 rfl ?_
  refine E.int ?_
  walk_at "o"
  refine ⟨_, rfl, ?_⟩
  refine ifd (fun h => ?_) (fun h => W.nil ?_)
  · skip
    refine W.cons ?_
    refine W1.ret ?_
    refine E.dcall GLow (hr.mono (by decide)) ?_
    refine A.cons ?_
    refine E.tup ?_
    refine A.cons ?_
    refine E.bin ?_
    refine E.dcallP GWide (hr.mono (by decide)) ?_
    refine A.cons ?_
    refine E.var 0 rfl ?_
    refine A.nil ?_
    refine wdq rfl fun r h0 h1 => ?_
    refine E.bin ?_
    refine E.int ?_
    refine E.bin ?_
    refine E.int ?_
    refine E.int ?_
    walk_at "o"
    walk_at "o"
    walk_at "o"
    refine A.cons ?_
    refine E.bin ?_
    refine E.int ?_
    refine E.dcallP GWide (hr.mono (by decide)) ?_
    refine A.cons ?_
    refine E.var 0 rfl ?_
    refine A.nil ?_
    refine wdq rfl fun s g0 g1 => ?_
    walk_at "o"
    refine A.nil ?_
    walk_at "disp"
    refine A.nil ?_
    have ok := wide_ok h0 h1 g0 g1
    refine ⟨[_], rfl, ⟨_, _, rfl, ok.mono⟩, ?_⟩
    rintro r hr1
    obtain ⟨p, q, rfl, hn⟩ := hr1 _ _ rfl
    exact ⟨.inl rfl, _, rfl, p, q, rfl, low_ok hn ok⟩
  refine W.cons ?_
  refine W1.ret ?_
  refine E.dcall GLow (hr.mono (by decide)) ?_
  refine A.cons ?_
  refine E.tup ?_
  refine A.cons ?_
  refine E.bin ?_
  refine E.dcallP GTake (hr.mono (by decide)) ?_
  refine A.cons ?_
  refine E.var 0 rfl ?_
  refine A.cons ?_
  refine E.int ?_
  refine A.nil ?_
  refine tkq rfl (by decide) (by decide) fun r h0 h1 => ?_
  refine E.int ?_
  walk_at "o"
  refine A.cons ?_
  refine E.bin ?_
  refine E.int ?_
  refine E.dcallP GTake (hr.mono (by decide)) ?_
  refine A.cons ?_
  refine E.var 0 rfl ?_
  refine A.cons ?_
  refine E.int ?_
  refine A.nil ?_
  refine tkq rfl (by decide) (by decide) fun s g0 g1 => ?_
  walk_at "o"
  refine A.nil ?_
  walk_at "disp"
  refine A.nil ?_
  have ok : OkK 190 (r - 5) (1 + s) := (small_ok (m := 13) (n := 13) (k := 4) (by omega) (by omega) (by omega) (by omega) Bd.lit Bd.lit).mono
  refine ⟨[_], rfl, ⟨_, _, rfl, ok.mono⟩, ?_⟩
  rintro r hr1
  obtain ⟨p, q, rfl, hn⟩ := hr1 _ _ rfl
  exact ⟨.inl rfl, _, rfl, p, q, rfl, low_ok hn ok⟩
end

theorem eq_val {a b c d p q r s : Int} (g1 : p * b = a * q) (g2 : r * d = c * s) (e1 : p * s = r * q) (hq : q ≠ 0) (hs : s ≠ 0) : a * d = c * b := by
  refine Int.eq_of_mul_eq_mul_right (Int.mul_ne_zero hq hs) ?_
  have r1 : ∀ x y z t : Int, x * y * (z * t) = x * z * (y * t) := fun x y z t => by rw [Int.mul_assoc, Int.mul_assoc, ← Int.mul_assoc y, Int.mul_comm y z, Int.mul_assoc z]
  have r2 : ∀ x y z t : Int, x * y * (z * t) = x * t * (y * z) := fun x y z t => by rw [Int.mul_comm z t, r1]
  calc a * d * (q * s) = a * q * (d * s) := r1 _ _ _ _
    _ = p * b * (d * s) := by rw [g1]
    _ = p * s * (b * d) := r2 _ _ _ _
    _ = r * q * (b * d) := by rw [e1]
    _ = r * d * (q * b) := r2 _ _ _ _
    _ = c * s * (q * b) := by rw [g2]
    _ = c * b * (s * q) := r2 _ _ _ _
    _ = c * b * (q * s) := by rw [Int.mul_comm s q]
def maxE (l l' : En) : En := match l with
  | none => l'
  | some v => if lessE (some v) l' = true then l' else some v
def minE (h h' : En) : En := match h with
  | none => h'
  | some v => if lessE h' (some v) = true then h' else some v
def comD (l h l' h' : En) : D := if lessE (minE h h') (maxE l l') = true then .non else dI (maxE l l') (minE h h')
def neE (l h n : En) : En := if lessE n l = true then l else if lessE h n = true then h else n
theorem maxE_ok {k : Nat} {l l' : En} (o : OkE k l) (o' : OkE k l') : OkE k (maxE l l') := by
  cases o with
  | non => exact o'
  | num o =>
    unfold maxE
    split
    · exact o'
    · split
      · exact o'
      · rename_i e _
        cases e
        exact .num o
theorem minE_ok {k : Nat} {l l' : En} (o : OkE k l) (o' : OkE k l') : OkE k (minE l l') := by
  cases o with
  | non => exact o'
  | num o =>
    unfold minE
    split
    · exact o'
    · split
      · exact o'
      · rename_i e _
        cases e
        exact .num o
theorem TE.lar {C : Addr} {k : Nat} {x y : D} {e f : En} (h1 : TE C x e) (h2 : TE C y f) (o1 : OkE k e) (o2 : OkE k f) : TE C (larL x y) (maxE e f) := by
  cases h1 with
  | non => exact h2
  | @rat a b p q h1 =>
    cases h2 with
    | non => exact .rat h1
    | @rat c d r s h2 =>
      have z := cmp_conv h2 h1 o2.num'.1 o1.num'.1
      rw [larL_rr]
      show TE C _ (if decide (a * d < c * b) = true then some (c, d) else some (a, b))
      by_cases hz : a * d < c * b
      · rw [decide_eq_true hz, if_pos rfl, if_neg (by have := z.mpr hz; omega)]; exact .rat h2
      · rw [decide_eq_false hz, if_neg Bool.false_ne_true]
        split
        · exact .rat h1
        · rename_i hn
          have hn2 : ¬ p * s < r * q := fun g => hz (z.mp g)
          have e1 : p * s = r * q := by omega
          have : a * d = c * b := by
            have g1 := h1.2.1
            have g2 := h2.2.1
            have hq := h1.1
            have hs := h2.1
            exact eq_val g1 g2 e1 (Int.ne_of_gt hq) (Int.ne_of_gt hs)
          exact .rat (h2.conv (Int.ne_of_gt o2.num'.1) this.symm)
theorem TE.sma {C : Addr} {k : Nat} {x y : D} {e f : En} (h1 : TE C x e) (h2 : TE C y f) (o1 : OkE k e) (o2 : OkE k f) : TE C (smaH x y) (minE e f) := by
  cases h1 with
  | non => exact h2
  | @rat a b p q h1 =>
    cases h2 with
    | non => exact .rat h1
    | @rat c d r s h2 =>
      have z := cmp_conv h1 h2 o1.num'.1 o2.num'.1
      rw [smaH_rr]
      show TE C _ (if decide (c * b < a * d) = true then some (c, d) else some (a, b))
      by_cases hz : c * b < a * d
      · rw [decide_eq_true hz, if_pos rfl, if_neg (by have := z.mpr hz; omega)]; exact .rat h2
      · rw [decide_eq_false hz, if_neg Bool.false_ne_true]
        split
        · exact .rat h1
        · rename_i hn
          have hn2 : ¬ r * q < p * s := fun g => hz (z.mp g)
          have e1 : p * s = r * q := by omega
          have : a * d = c * b := by
            have g1 := h1.2.1
            have g2 := h2.2.1
            have hq := h1.1
            have hs := h2.1
            exact eq_val g1 g2 e1 (Int.ne_of_gt hq) (Int.ne_of_gt hs)
          exact .rat (h2.conv (Int.ne_of_gt o2.num'.1) this.symm)
/-- what common tells is what the law works out -/
inductive ComV (C CI : Addr) : D → D → Prop where
  | non : ComV C CI .non .non
  | ivl {x y : D} {l h : En} (t1 : TE C x l) (t2 : TE C y h) (o1 : OkE 1900 l) (o2 : OkE 1900 h) : ComV C CI (ivl CI x y) (dI l h)
theorem com_val {C CI : Addr} {x y x' y' : D} {l h l' h' : En} (t1 : TE C x l) (t2 : TE C y h) (t3 : TE C x' l') (t4 : TE C y' h') (o1 : OkE 1900 l) (o2 : OkE 1900 h) (o3 : OkE 1900 l') (o4 : OkE 1900 h') : ComV C CI (comI CI (ivl CI x y) (ivl CI x' y')) (comD l h l' h') := by
  have a := t1.lar t3 o1 o3
  have b := t2.sma t4 o2 o4
  have oa := maxE_ok o1 o3
  have ob := minE_ok o2 o4
  have e := a.bey b oa ob
  show ComV C CI (if bey (larL x x') (smaH y y') = true then .non else ivl CI (larL x x') (smaH y y')) _
  unfold comD
  rw [e]
  split
  · exact .non
  · exact .ivl a b oa ob
theorem lar_nr {C : Addr} {k : Nat} {x : D} (h : EndD C k x) : larL x .non = x := by
  cases h <;> rfl
theorem sma_nr {C : Addr} {k : Nat} {x : D} (h : EndD C k x) : smaH x .non = x := by
  cases h <;> rfl

section
variable {P : Program} {w : World} {K : PySem.W.Frag} {mg : Str → Option Value} {base : Heap} {C CI : Addr} {f : Addr} {fd : FuncData}
abbrev sComE : Stmt := top 57
theorem scComE : FnScope ["one", "two", "low", "high"] ["one", "two"] (defScope sComE) := ⟨rfl, rfl, rfl, by decide +kernel, rfl, by decide +kernel, by decide +kernel⟩
theorem ok_come (F : Df K mg "_law_common_ends" sComE ["one", "two"] f fd) (GLess : KLess P w K mg base) : FnOk P w K mg base CX0 2 f fd ["one", "two"] (spF K (fun ds => ∃ l h l' h', ds = [dI l h, dI l' h'] ∧ OkE 1900 l ∧ OkE 1900 h ∧ OkE 1900 l' ∧ OkE 1900 h') fun ds r => r = comD (eL (a0 ds)) (eH (a0 ds)) (eL (a1 ds)) (eH (a1 ds))) := by
  refine ok_F F.fn scComE (fun ds ⟨_, _, _, _, e, _⟩ => by rw [e]; rfl) fun cdv Ar outer sh Hp0 xE Fr ds hr hm ⟨l, h, l', h', eq, o1, o2, o3, o4⟩ => ?_
  have nd := scComE.nd
  subst eq
  show W _ _ _ _ _ [some (.d (dI l h)), some (.d (dI l' h')), none, none]
  refine W.cons ?_
  refine W1.set 2 ?_ nd
  refine E.ix ?_
  refine E.var 0 rfl ?_
  refine E.int ?_
  walk_at "ix"
  walk_at "n"
  refine W.cut (fun o r => r = [some (.d (dI l h)), some (.d (dI l' h')), some (.d (dE (maxE l l'))), none]) ?_ ?_
  · cases o1 with
    | non =>
      show W1 _ _ _ _ _ [some (.d (dI none h)), some (.d (dI l' h')), some (.d .non), none]
      refine W1.iff ?_
      refine Tw.t ?_
      refine Tw.or ?_
      refine T.cmp ?_
      refine E.var 2 rfl ?_
      refine E.non ?_
      walk_at "o"
      refine ⟨_, rfl, ?_⟩
      refine iteT (iteT ?_)
      refine W.cons ?_
      refine W1.set 2 ?_ nd
      refine E.ix ?_
      refine E.var 1 rfl ?_
      refine E.int ?_
      walk_at "ix"
      walk_at "n"
      exact W.nil rfl
    | @num a b o1 => cases o3 with
      | non =>
        show W1 _ _ _ _ _ [some (.d (dI (some (a, b)) h)), some (.d (dI none h')), some (.d (dN a b)), none]
        refine W1.iff ?_
        refine Tw.t ?_
        refine Tw.or ?_
        refine T.cmp ?_
        refine E.var 2 rfl ?_
        refine E.non ?_
        walk_at "o"
        refine ⟨_, rfl, ?_⟩
        refine iteF ?_
        refine Tw.or1 ?_
        refine Tw.t ?_
        refine Tw.and ?_
        refine T.cmp ?_
        refine E.ix ?_
        refine E.var 1 rfl ?_
        refine E.int ?_
        walk_at "ix"
        refine E.non ?_
        walk_at "o"
        refine ⟨_, rfl, ?_⟩
        exact iteF (W.nil rfl)
      | @num c e o3 =>
        show W1 _ _ _ _ _ [some (.d (dI (some (a, b)) h)), some (.d (dI (some (c, e)) h')), some (.d (dN a b)), none]
        refine W1.iff ?_
        refine Tw.t ?_
        refine Tw.or ?_
        refine T.cmp ?_
        refine E.var 2 rfl ?_
        refine E.non ?_
        walk_at "o"
        refine ⟨_, rfl, ?_⟩
        refine iteF ?_
        refine Tw.or1 ?_
        refine Tw.t ?_
        refine Tw.and ?_
        refine T.cmp ?_
        refine E.ix ?_
        refine E.var 1 rfl ?_
        refine E.int ?_
        walk_at "ix"
        refine E.non ?_
        walk_at "o"
        refine ⟨_, rfl, ?_⟩
        refine iteT ?_
        refine Tw.and1 ?_
        refine T.truth ?_
        refine E.dcall GLess (hr.mono (by decide)) ?_
        refine A.cons ?_
        refine E.var 2 rfl ?_
        refine A.cons ?_
        refine E.ix ?_
        refine E.var 1 rfl ?_
        refine E.int ?_
        walk_at "ix"
        refine A.nil ?_
        refine ⟨[_, _], rfl, nn o1.mono o3.mono, ?_⟩
        rintro r hr1
        have hr1 := hr1 _ _ _ _ rfl
        subst hr1
        walk_at "tr"
        refine two2 (fun hz => ?_) (fun hz => W.nil ?_)
        · skip
          refine W.cons ?_
          refine W1.set 2 ?_ nd
          refine E.ix ?_
          refine E.var 1 rfl ?_
          refine E.int ?_
          walk_at "ix"
          walk_at "n"
          refine W.nil ?_
          show _ = [_, _, some (R.d (dE (if lessE (some (a, b)) (some (c, e)) = true then some (c, e) else some (a, b)))), none]
          rw [if_pos (show lessE (some (a, b)) (some (c, e)) = true from hz)]
        · show _ = [_, _, some (R.d (dE (if lessE (some (a, b)) (some (c, e)) = true then some (c, e) else some (a, b)))), none]
          rw [if_neg (by rw [show lessE (some (a, b)) (some (c, e)) = false from hz]; exact Bool.false_ne_true)]; rfl
  rintro o ρ rfl
  refine W.cons ?_
  refine W1.set 3 ?_ nd
  refine E.ix ?_
  refine E.var 0 rfl ?_
  refine E.int ?_
  walk_at "ix"
  walk_at "n"
  refine W.cut (fun o r => r = [some (.d (dI l h)), some (.d (dI l' h')), some (.d (dE (maxE l l'))), some (.d (dE (minE h h')))]) ?_ ?_
  · have oM := maxE_ok o1 o3
    generalize maxE l l' = m at *
    cases o2 with
    | non =>
      show W1 _ _ _ _ _ [some (.d (dI l none)), some (.d (dI l' h')), some (.d (dE m)), some (.d .non)]
      refine W1.iff ?_
      refine Tw.t ?_
      refine Tw.or ?_
      refine T.cmp ?_
      refine E.var 3 rfl ?_
      refine E.non ?_
      walk_at "o"
      refine ⟨_, rfl, ?_⟩
      refine iteT (iteT ?_)
      refine W.cons ?_
      refine W1.set 3 ?_ nd
      refine E.ix ?_
      refine E.var 1 rfl ?_
      refine E.int ?_
      walk_at "ix"
      walk_at "n"
      exact W.nil rfl
    | @num a b o2 => cases o4 with
      | non =>
        show W1 _ _ _ _ _ [some (.d (dI l (some (a, b)))), some (.d (dI l' none)), some (.d (dE m)), some (.d (dN a b))]
        refine W1.iff ?_
        refine Tw.t ?_
        refine Tw.or ?_
        refine T.cmp ?_
        refine E.var 3 rfl ?_
        refine E.non ?_
        walk_at "o"
        refine ⟨_, rfl, ?_⟩
        refine iteF ?_
        refine Tw.or1 ?_
        refine Tw.t ?_
        refine Tw.and ?_
        refine T.cmp ?_
        refine E.ix ?_
        refine E.var 1 rfl ?_
        refine E.int ?_
        walk_at "ix"
        refine E.non ?_
        walk_at "o"
        refine ⟨_, rfl, ?_⟩
        exact iteF (W.nil rfl)
      | @num c e o4 =>
        show W1 _ _ _ _ _ [some (.d (dI l (some (a, b)))), some (.d (dI l' (some (c, e)))), some (.d (dE m)), some (.d (dN a b))]
        refine W1.iff ?_
        refine Tw.t ?_
        refine Tw.or ?_
        refine T.cmp ?_
        refine E.var 3 rfl ?_
        refine E.non ?_
        walk_at "o"
        refine ⟨_, rfl, ?_⟩
        refine iteF ?_
        refine Tw.or1 ?_
        refine Tw.t ?_
        refine Tw.and ?_
        refine T.cmp ?_
        refine E.ix ?_
        refine E.var 1 rfl ?_
        refine E.int ?_
        walk_at "ix"
        refine E.non ?_
        walk_at "o"
        refine ⟨_, rfl, ?_⟩
        refine iteT ?_
        refine Tw.and1 ?_
        refine T.truth ?_
        refine E.dcall GLess (hr.mono (by decide)) ?_
        refine A.cons ?_
        refine E.ix ?_
        refine E.var 1 rfl ?_
        refine E.int ?_
        walk_at "ix"
        refine A.cons ?_
        refine E.var 3 rfl ?_
        refine A.nil ?_
        refine ⟨[_, _], rfl, nn o4.mono o2.mono, ?_⟩
        rintro r hr1
        have hr1 := hr1 _ _ _ _ rfl
        subst hr1
        walk_at "tr"
        refine two2 (fun hz => ?_) (fun hz => W.nil ?_)
        · skip
          refine W.cons ?_
          refine W1.set 3 ?_ nd
          refine E.ix ?_
          refine E.var 1 rfl ?_
          refine E.int ?_
          walk_at "ix"
          walk_at "n"
          refine W.nil ?_
          show _ = [_, _, _, some (R.d (dE (if lessE (some (c, e)) (some (a, b)) = true then some (c, e) else some (a, b))))]
          rw [if_pos (show lessE (some (c, e)) (some (a, b)) = true from hz)]
        · show _ = [_, _, _, some (R.d (dE (if lessE (some (c, e)) (some (a, b)) = true then some (c, e) else some (a, b))))]
          rw [if_neg (by rw [show lessE (some (c, e)) (some (a, b)) = false from hz]; exact Bool.false_ne_true)]; rfl
  rintro o ρ rfl
  have oM := maxE_ok o1 o3
  have oN := minE_ok o2 o4
  have goal : comD (eL (dI l h)) (eH (dI l h)) (eL (dI l' h')) (eH (dI l' h')) = if lessE (minE h h') (maxE l l') = true then .non else dI (maxE l l') (minE h h') := by
    rw [eL_dI, eH_dI, eL_dI, eH_dI]; rfl
  show W _ _ _ { nx := fun _ _ => D.non = comD (eL (dI l h)) (eH (dI l h)) (eL (dI l' h')) (eH (dI l' h')), rt := fun _ r => ∃ d, r = .d d ∧ d = comD (eL (dI l h)) (eH (dI l h)) (eL (dI l' h')) (eH (dI l' h')) } _ _
  rw [goal]
  generalize maxE l l' = m at *
  generalize minE h h' = n at *
  cases oM with
  | non =>
    refine W.cons ?_
    refine W1.iff ?_
    refine Tw.t ?_
    refine Tw.and ?_
    refine T.cmp ?_
    refine E.var 2 rfl ?_
    refine E.non ?_
    walk_at "o"
    refine ⟨_, rfl, ?_⟩
    refine iteF (W.nil ?_)
    refine W.cons ?_
    refine W1.ret ?_
    refine E.tup ?_
    refine A.cons ?_
    refine E.var 2 rfl ?_
    refine A.cons ?_
    refine E.var 3 rfl ?_
    refine A.nil ?_
    walk_at "disp"
    exact ⟨_, rfl, by rw [lessE_nr, if_neg Bool.false_ne_true]⟩
  | @num a b oM => cases oN with
    | non =>
      refine W.cons ?_
      refine W1.iff ?_
      refine Tw.t ?_
      refine Tw.and ?_
      refine T.cmp ?_
      refine E.var 2 rfl ?_
      refine E.non ?_
      walk_at "o"
      refine ⟨_, rfl, ?_⟩
      refine iteT ?_
      refine Tw.and ?_
      refine T.cmp ?_
      refine E.var 3 rfl ?_
      refine E.non ?_
      walk_at "o"
      refine ⟨_, rfl, ?_⟩
      refine iteF (W.nil ?_)
      refine W.cons ?_
      refine W1.ret ?_
      refine E.tup ?_
      refine A.cons ?_
      refine E.var 2 rfl ?_
      refine A.cons ?_
      refine E.var 3 rfl ?_
      refine A.nil ?_
      walk_at "disp"
      exact ⟨_, rfl, by rw [lessE_nl, if_neg Bool.false_ne_true]⟩
    | @num c e oN =>
      refine W.cons ?_
      refine W1.iff ?_
      refine Tw.t ?_
      refine Tw.and ?_
      refine T.cmp ?_
      refine E.var 2 rfl ?_
      refine E.non ?_
      walk_at "o"
      refine ⟨_, rfl, ?_⟩
      refine iteT ?_
      refine Tw.and ?_
      refine T.cmp ?_
      refine E.var 3 rfl ?_
      refine E.non ?_
      walk_at "o"
      refine ⟨_, rfl, ?_⟩
      refine iteT ?_
      refine Tw.and1 ?_
      refine T.truth ?_
      refine E.dcall GLess (hr.mono (by decide)) ?_
      refine A.cons ?_
      refine E.var 3 rfl ?_
      refine A.cons ?_
      refine E.var 2 rfl ?_
      refine A.nil ?_
      refine ⟨[_, _], rfl, nn oN.mono oM.mono, ?_⟩
      rintro r hr1
      have hr1 := hr1 _ _ _ _ rfl
      subst hr1
      walk_at "tr"
      refine two2 (fun hz => ?_) (fun hz => W.nil ?_)
      · skip
        refine W.cons ?_
        refine W1.ret ?_
        refine E.non ?_
        exact ⟨_, rfl, (if_pos hz).symm⟩
      · skip
        refine W.cons ?_
        refine W1.ret ?_
        refine E.tup ?_
        refine A.cons ?_
        refine E.var 2 rfl ?_
        refine A.cons ?_
        refine E.var 3 rfl ?_
        refine A.nil ?_
        walk_at "disp"
        exact ⟨_, rfl, (if_neg fun z => Bool.false_ne_true (hz.symm.trans z)).symm⟩
abbrev sNea : Stmt := top 58
theorem scNea : FnScope ["ends", "number"] ["ends", "number"] (defScope sNea) := ⟨rfl, rfl, rfl, by decide +kernel, rfl, by decide +kernel, by decide +kernel⟩
theorem ok_nea (F : Df K mg "_law_nearest" sNea ["ends", "number"] f fd) (GLess : KLess P w K mg base) : FnOk P w K mg base CX0 2 f fd ["ends", "number"] (spF K preCon fun ds r => r = dE (neE (eL (a0 ds)) (eH (a0 ds)) (eD (a1 ds)))) := by
  refine ok_F F.fn scNea (fun ds ⟨_, _, _, _, e, _⟩ => by rw [e]; rfl) fun cdv Ar outer sh Hp0 xE Fr ds hr hm ⟨l, h, c, e, eq, o1, o2, oc⟩ => ?_
  have nd := scNea.nd
  subst eq
  have goal : dE (neE (eL (dI l h)) (eH (dI l h)) (eD (dN c e))) = dE (if lessE (some (c, e)) l = true then l else if lessE h (some (c, e)) = true then h else some (c, e)) := by
    rw [eL_dI, eH_dI]; rfl
  show W _ _ _ { nx := fun _ _ => D.non = dE (neE (eL (dI l h)) (eH (dI l h)) (eD (dN c e))), rt := fun _ r => ∃ d, r = .d d ∧ d = dE (neE (eL (dI l h)) (eH (dI l h)) (eD (dN c e))) } _ [some (.d (dI l h)), some (.d (dN c e))]
  rw [goal]
  refine W.cut (fun o r => lessE (some (c, e)) l = false ∧ r = [some (.d (dI l h)), some (.d (dN c e))]) ?_ ?_
  · cases o1 with
    | non =>
      show W1 _ _ _ _ _ [some (.d (dI none h)), some (.d (dN c e))]
      refine W1.iff ?_
      refine Tw.t ?_
      refine Tw.and ?_
      refine T.cmp ?_
      refine E.ix ?_
      refine E.var 0 rfl ?_
      refine E.int ?_
      walk_at "ix"
      refine E.non ?_
      walk_at "o"
      refine ⟨_, rfl, ?_⟩
      exact iteF (W.nil ⟨rfl, rfl⟩)
    | @num a b o1 =>
      show W1 _ _ _ _ _ [some (.d (dI (some (a, b)) h)), some (.d (dN c e))]
      refine W1.iff ?_
      refine Tw.t ?_
      refine Tw.and ?_
      refine T.cmp ?_
      refine E.ix ?_
      refine E.var 0 rfl ?_
      refine E.int ?_
      walk_at "ix"
      refine E.non ?_
      walk_at "o"
      refine ⟨_, rfl, ?_⟩
      refine iteT ?_
      refine Tw.and1 ?_
      refine T.truth ?_
      refine E.dcall GLess (hr.mono (by decide)) ?_
      refine A.cons ?_
      refine E.var 1 rfl ?_
      refine A.cons ?_
      refine E.ix ?_
      refine E.var 0 rfl ?_
      refine E.int ?_
      walk_at "ix"
      refine A.nil ?_
      refine ⟨[_, _], rfl, nn oc.mono o1.mono, ?_⟩
      rintro r hr1
      have hr1 := hr1 _ _ _ _ rfl
      subst hr1
      walk_at "tr"
      refine two2 (fun hz => ?_) (fun hz => W.nil ⟨hz, rfl⟩)
      refine W.cons ?_
      refine W1.ret ?_
      refine E.ix ?_
      refine E.var 0 rfl ?_
      refine E.int ?_
      walk_at "ix"
      exact ⟨_, rfl, by rw [if_pos (show lessE (some (c, e)) (some (a, b)) = true from hz)]⟩
  rintro o ρ ⟨hl, rfl⟩
  rw [if_neg (by rw [hl]; exact Bool.false_ne_true)]
  refine W.cut (fun o r => lessE h (some (c, e)) = false ∧ r = [some (.d (dI l h)), some (.d (dN c e))]) ?_ ?_
  · cases o2 with
    | non =>
      show W1 _ _ _ _ _ [some (.d (dI l none)), some (.d (dN c e))]
      refine W1.iff ?_
      refine Tw.t ?_
      refine Tw.and ?_
      refine T.cmp ?_
      refine E.ix ?_
      refine E.var 0 rfl ?_
      refine E.int ?_
      walk_at "ix"
      refine E.non ?_
      walk_at "o"
      refine ⟨_, rfl, ?_⟩
      exact iteF (W.nil ⟨rfl, rfl⟩)
    | @num a b o2 =>
      show W1 _ _ _ _ _ [some (.d (dI l (some (a, b)))), some (.d (dN c e))]
      refine W1.iff ?_
      refine Tw.t ?_
      refine Tw.and ?_
      refine T.cmp ?_
      refine E.ix ?_
      refine E.var 0 rfl ?_
      refine E.int ?_
      walk_at "ix"
      refine E.non ?_
      walk_at "o"
      refine ⟨_, rfl, ?_⟩
      refine iteT ?_
      refine Tw.and1 ?_
      refine T.truth ?_
      refine E.dcall GLess (hr.mono (by decide)) ?_
      refine A.cons ?_
      refine E.ix ?_
      refine E.var 0 rfl ?_
      refine E.int ?_
      walk_at "ix"
      refine A.cons ?_
      refine E.var 1 rfl ?_
      refine A.nil ?_
      refine ⟨[_, _], rfl, nn o2.mono oc.mono, ?_⟩
      rintro r hr1
      have hr1 := hr1 _ _ _ _ rfl
      subst hr1
      walk_at "tr"
      refine two2 (fun hz => ?_) (fun hz => W.nil ⟨hz, rfl⟩)
      refine W.cons ?_
      refine W1.ret ?_
      refine E.ix ?_
      refine E.var 0 rfl ?_
      refine E.int ?_
      walk_at "ix"
      exact ⟨_, rfl, by rw [if_pos (show lessE (some (a, b)) (some (c, e)) = true from hz)]⟩
  rintro o ρ ⟨hh, rfl⟩
  rw [if_neg (by rw [hh]; exact Bool.false_ne_true)]
  refine W.cons ?_
  refine W1.ret ?_
  refine E.var 1 rfl ?_
  exact ⟨_, rfl, rfl⟩
end

section
variable {P : Program} {w : World} {K : PySem.W.Frag} {mg : Str → Option Value} {base : Heap} {C CI : Addr} {f : Addr} {fd : FuncData}
abbrev KSameT (P : Program) (w : World) (K : PySem.W.Frag) (mg : Str → Option Value) (base : Heap) (C CI : Addr) : Prop := DOk P w K mg base CX0 "_law_same_told" 5 (spF K (fun ds => ∃ x y l h, ds = [ivl CI x y, dI l h] ∧ TE C x l ∧ TE C y h ∧ OkE 1900 l ∧ OkE 1900 h) fun _ r => r = .bl true)
abbrev KComE (P : Program) (w : World) (K : PySem.W.Frag) (mg : Str → Option Value) (base : Heap) : Prop := DOk P w K mg base CX0 "_law_common_ends" 2 (spF K (fun ds => ∃ l h l' h', ds = [dI l h, dI l' h'] ∧ OkE 1900 l ∧ OkE 1900 h ∧ OkE 1900 l' ∧ OkE 1900 h') fun ds r => r = comD (eL (a0 ds)) (eH (a0 ds)) (eL (a1 ds)) (eH (a1 ds)))
/-- an interval and its ends -/
structure IE (C CI : Addr) (k : Nat) (i : D) (l h : En) : Prop where
  ex : ∃ x y, i = ivl CI x y ∧ TE C x l ∧ TE C y h
  o1 : OkE k l
  o2 : OkE k h
  ord : lessE h l = false
theorem IE.ivd {k : Nat} {i : D} {l h : En} (e : IE C CI k i l h) : IvD C CI k i := by
  obtain ⟨⟨x, y, rfl, t1, t2⟩, o1, o2, o⟩ := e
  exact .mk (t1.endD o1) (t2.endD o2) (by rw [t1.bey t2 o1 o2]; exact o)
theorem IE.same {k : Nat} {i : D} {l h : En} (e : IE C CI k i l h) (hk : k ≤ 1900 := by decide) : ∃ x y l' h', [i, dI l h] = [ivl CI x y, dI l' h'] ∧ TE C x l' ∧ TE C y h' ∧ OkE 1900 l' ∧ OkE 1900 h' := by
  obtain ⟨⟨x, y, rfl, t1, t2⟩, o1, o2, o⟩ := e
  exact ⟨x, y, l, h, rfl, t1, t2, o1.mono hk, o2.mono hk⟩
abbrev sMet : Stmt := top 59
theorem scMet : FnScope ["first", "second", "one", "two", "pair", "due"] ["first", "second", "one", "two"] (defScope sMet) := ⟨rfl, rfl, rfl, by decide +kernel, rfl, by decide +kernel, by decide +kernel⟩
theorem ok_met (F : Df K mg "_law_met" sMet ["first", "second", "one", "two"] f fd) (tI : IvT K mg C CI) (GComE : KComE P w K mg base) (GSameT : KSameT P w K mg base C CI) (MCommon : MOk P w K mg base CX0 CI "common" 8 (spF K (preII C CI 1900) fun ds r => r = comI CI (a0 ds) (a1 ds))) (CEv : COk P w K mg base CX0 CI "everything" 8 (spF K (fun ds => ds = [.ref CI]) fun ds r => r = ivl CI .non .non)) :
    FnOk P w K mg base CX0 9 f fd ["first", "second", "one", "two"] (spF K (fun ds => ∃ i j l h l' h', ds = [i, j, dI l h, dI l' h'] ∧ IE C CI 200 i l h ∧ IE C CI 200 j l' h') fun _ r => r = .bl true) := by
  refine ok_F F.fn scMet (fun ds ⟨_, _, _, _, _, _, e, _⟩ => by rw [e]; rfl) fun cdv Ar outer sh Hp0 xE Fr ds hr hm ⟨i, j, l, h, l', h', eq, ei, ej⟩ => ?_
  have nd := scMet.nd
  subst eq
  have vi := ei.ivd
  have vj := ej.ivd
  obtain ⟨⟨x, y, rfl, t1, t2⟩, o1, o2, oi⟩ := ei
  obtain ⟨⟨x', y', rfl, t3, t4⟩, o3, o4, oj⟩ := ej
  have c1 := com_val (CI := CI) t1 t2 t3 t4 o1.mono o2.mono o3.mono o4.mono
  have c2 := com_val (CI := CI) t3 t4 t1 t2 o3.mono o4.mono o1.mono o2.mono
  show W _ _ _ _ _ [some (.d (ivl CI x y)), some (.d (ivl CI x' y')), some (.d (dI l h)), some (.d (dI l' h')), none, none]
  refine W.cut (fun o r => ∃ u v, r = [some (.d (ivl CI x y)), some (.d (ivl CI x' y')), some (.d (dI l h)), some (.d (dI l' h')), u, v]) ?_ ?_
  · refine W1.forL (fun i o r => ∃ u v, r = [some (.d (ivl CI x y)), some (.d (ivl CI x' y')), some (.d (dI l h)), some (.d (dI l' h')), u, v]) rfl PassesOwn.never ?_
    refine E.lst ?_
    refine A.cons ?_
    refine E.tup ?_
    refine A.cons ?_
    refine E.dmeth tI.cls MCommon (hr.mono (by decide)) ?_
    refine E.var 0 rfl ?_
    refine ⟨_, _, rfl, rfl, ?_⟩
    refine A.cons ?_
    refine E.var 1 rfl ?_
    refine A.nil ?_
    refine ⟨[_], rfl, ⟨_, _, rfl, vi.mono, vj.mono⟩, ?_⟩
    rintro _ rfl
    refine A.cons ?_
    refine E.tup ?_
    refine A.cons ?_
    refine E.var 2 rfl ?_
    refine A.cons ?_
    refine E.var 3 rfl ?_
    refine A.nil ?_
    walk_at "disp"
    refine A.nil ?_
    walk_at "disp"
    refine A.cons ?_
    refine E.tup ?_
    refine A.cons ?_
    refine E.dmeth tI.cls MCommon (hr.mono (by decide)) ?_
    refine E.var 1 rfl ?_
    refine ⟨_, _, rfl, rfl, ?_⟩
    refine A.cons ?_
    refine E.var 0 rfl ?_
    refine A.nil ?_
    refine ⟨[_], rfl, ⟨_, _, rfl, vj.mono, vi.mono⟩, ?_⟩
    rintro _ rfl
    refine A.cons ?_
    refine E.tup ?_
    refine A.cons ?_
    refine E.var 3 rfl ?_
    refine A.cons ?_
    refine E.var 2 rfl ?_
    refine A.nil ?_
    walk_at "disp"
    refine A.nil ?_
    walk_at "disp"
    refine A.nil ?_
    walk_at "disp"
    refine ⟨_, .inl rfl, ⟨_, _, rfl⟩, ?_, fun _ _ z => z⟩
    rintro n d o ρ hd ⟨u, v, rfl⟩
    obtain ⟨g, dd, l1, h1, l2, h2, rfl, cv, ed, p1, p2, p3, p4⟩ : ∃ g dd l1 h1 l2 h2, d = .tup [g, .tup [dI l1 h1, dI l2 h2]] ∧ ComV C CI g dd ∧ dd = comD l1 h1 l2 h2 ∧ OkE 200 l1 ∧ OkE 200 h1 ∧ OkE 200 l2 ∧ OkE 200 h2 := by
      match n, hd with
      | 0, hd => cases hd; exact ⟨_, _, l, h, l', h', rfl, c1, rfl, o1, o2, o3, o4⟩
      | 1, hd => cases hd; exact ⟨_, _, l', h', l, h, rfl, c2, rfl, o3, o4, o1, o2⟩
      | n + 2, hd => simp at hd
    refine Tg.name 4 ?_ nd
    show W _ _ _ _ _ [some (.d (ivl CI x y)), some (.d (ivl CI x' y')), some (.d (dI l h)), some (.d (dI l' h')), some (.d (.tup [g, .tup [dI l1 h1, dI l2 h2]])), v]
    refine W.cons ?_
    refine W1.set 5 ?_ nd
    refine E.dcall GComE (hr.mono (by decide)) ?_
    refine A.cons ?_
    refine E.ix ?_
    refine E.ix ?_
    refine E.var 4 rfl ?_
    refine E.int ?_
    walk_at "ix"
    refine E.int ?_
    walk_at "ix"
    refine A.cons ?_
    refine E.ix ?_
    refine E.ix ?_
    refine E.var 4 rfl ?_
    refine E.int ?_
    walk_at "ix"
    refine E.int ?_
    walk_at "ix"
    refine A.nil ?_
    refine ⟨[_, _], rfl, ⟨_, _, _, _, rfl, p1.mono, p2.mono, p3.mono, p4.mono⟩, ?_⟩
    rintro _ rfl
    rw [show comD (eL (a0 [dI l1 h1, dI l2 h2])) (eH (a0 [dI l1 h1, dI l2 h2])) (eL (a1 [dI l1 h1, dI l2 h2])) (eH (a1 [dI l1 h1, dI l2 h2])) = dd from by
      show comD (eL (dI l1 h1)) (eH (dI l1 h1)) (eL (dI l2 h2)) (eH (dI l2 h2)) = dd
      rw [eL_dI, eH_dI, eL_dI, eH_dI, ed]]
    walk_at "n"
    cases cv with
    | non =>
      refine W.cons ?_
      refine W1.iff ?_
      refine T.cmp ?_
      refine E.var 5 rfl ?_
      refine E.non ?_
      walk_at "o"
      refine ⟨_, rfl, ?_⟩
      refine iteT ?_
      refine W.cons ?_
      refine W1.iff ?_
      refine T.cmp ?_
      refine E.ix ?_
      refine E.var 4 rfl ?_
      refine E.int ?_
      walk_at "ix"
      refine E.non ?_
      walk_at "o"
      refine ⟨_, rfl, ?_⟩
      exact iteF (W.nil (W.nil (W.nil ⟨_, _, rfl⟩)))
    | @ivl a b l3 h3 s1 s2 q1 q2 =>
      refine W.cons ?_
      refine W1.iff ?_
      refine T.cmp ?_
      refine E.var 5 rfl ?_
      refine E.non ?_
      walk_at "o"
      refine ⟨_, rfl, ?_⟩
      refine iteF ?_
      refine W.cons ?_
      refine W1.iff ?_
      refine T.not ?_
      refine T.truth ?_
      refine E.dcall GSameT (hr.mono (by decide)) ?_
      refine A.cons ?_
      refine E.ix ?_
      refine E.var 4 rfl ?_
      refine E.int ?_
      walk_at "ix"
      refine A.cons ?_
      refine E.var 5 rfl ?_
      refine A.nil ?_
      refine ⟨[_, _], rfl, ⟨_, _, _, _, rfl, s1, s2, q1, q2⟩, ?_⟩
      rintro _ rfl
      walk_at "tr"
      exact iteF (W.nil (W.nil (W.nil ⟨_, _, rfl⟩)))
  rintro o ρ ⟨u, v, rfl⟩
  refine W.cons ?_
  refine W1.ret ?_
  refine E.dcall GSameT (hr.mono (by decide)) ?_
  refine A.cons ?_
  refine E.dmeth tI.cls MCommon (hr.mono (by decide)) ?_
  refine E.var 0 rfl ?_
  refine ⟨_, _, rfl, rfl, ?_⟩
  refine A.cons ?_
  refine E.cm0 CEv (hr.mono (by decide)) ?_
  refine E.globR tI.mgI ?_
  skip
  refine ⟨rfl, rfl, ?_⟩
  rintro _ rfl
  refine A.nil ?_
  refine ⟨[_], rfl, ⟨_, _, rfl, vi.mono, .mk .non .non rfl⟩, ?_⟩
  rintro _ rfl
  have ec : comI CI (ivl CI x y) (ivl CI .non .non) = ivl CI x y := by
    show (if bey (larL x .non) (smaH y .non) = true then _ else ivl CI (larL x .non) (smaH y .non)) = _
    rw [lar_nr (t1.endD o1), sma_nr (t2.endD o2), t1.bey t2 o1 o2, oi, if_neg Bool.false_ne_true]
  rw [show comI CI (a0 [ivl CI x y, ivl CI .non .non]) (a1 [ivl CI x y, ivl CI .non .non]) = ivl CI x y from ec]
  refine A.cons ?_
  refine E.var 2 rfl ?_
  refine A.nil ?_
  refine ⟨[_, _], rfl, ⟨_, _, _, _, rfl, t1, t2, o1.mono, o2.mono⟩, ?_⟩
  rintro _ rfl
  exact ⟨_, rfl, rfl⟩
abbrev KCont (P : Program) (w : World) (K : PySem.W.Frag) (mg : Str → Option Value) (base : Heap) : Prop := DOk P w K mg base CX0 "_law_contains" 2 (spF K preCon fun ds r => r = .bl (contE (eL (a0 ds)) (eH (a0 ds)) (eD (a1 ds))))
/-- a number's place in an interval, told and due -/
theorem con_val {k j : Nat} {x y : D} {l h : En} {c e p q : Int} (t1 : TE C x l) (t2 : TE C y h) (o1 : OkE k l) (o2 : OkE k h) (oc : OkK j c e) (hn : Nrm c e p q) : (!bey x (rat C p q) && !bey (rat C p q) y) = contE l h (some (c, e)) := by
  have tn : TE C (rat C p q) (some (c, e)) := .rat hn
  rw [t1.bey tn o1 (.num oc), tn.bey t2 (.num oc) o2]
  rfl
theorem nea_val {k j : Nat} {x y : D} {l h : En} {c e p q : Int} (t1 : TE C x l) (t2 : TE C y h) (o1 : OkE k l) (o2 : OkE k h) (oc : OkK j c e) (hn : Nrm c e p q) (ho : lessE h l = false) : ∃ p2 q2 a b, neaI (ivl CI x y) (rat C p q) = rat C p2 q2 ∧ neE l h (some (c, e)) = some (a, b) ∧ Nrm a b p2 q2 ∧ ((l = some (a, b)) ∨ (h = some (a, b)) ∨ (a = c ∧ b = e)) := by
  have tn : TE C (rat C p q) (some (c, e)) := .rat hn
  have e1 := t1.bey tn o1 (.num oc)
  have e2 := tn.bey t2 (.num oc) o2
  show ∃ p2 q2 a b, (if bey x (rat C p q) = true then x else if bey (rat C p q) y = true then y else rat C p q) = rat C p2 q2 ∧ _
  unfold neE
  rw [e1, e2]
  by_cases z1 : lessE (some (c, e)) l = true
  · rw [if_pos z1, if_pos z1]
    cases t1 with
    | non => rw [lessE_nr] at z1; cases z1
    | rat g => exact ⟨_, _, _, _, rfl, rfl, g, .inl rfl⟩
  · rw [if_neg z1, if_neg z1]
    by_cases z2 : lessE h (some (c, e)) = true
    · rw [if_pos z2, if_pos z2]
      cases t2 with
      | non => rw [lessE_nl] at z2; cases z2
      | rat g => exact ⟨_, _, _, _, rfl, rfl, g, .inr (.inl rfl)⟩
    · rw [if_neg z2, if_neg z2]
      exact ⟨_, _, _, _, rfl, rfl, hn, .inr (.inr ⟨rfl, rfl⟩)⟩
end

section
variable {P : Program} {w : World} {K : PySem.W.Frag} {mg : Str → Option Value} {base : Heap} {C CI : Addr} {f : Addr} {fd : FuncData}
theorem lessE_self {x : En} : lessE x x = false := by
  cases x with
  | none => rfl
  | some v => obtain ⟨a, b⟩ := v; exact decide_eq_false (by omega)
abbrev sAsk : Stmt := top 60
theorem scAsk : FnScope ["first", "one", "number", "place", "near", "end", "step"] ["first", "one", "number"] (defScope sAsk) := ⟨rfl, rfl, rfl, by decide +kernel, rfl, by decide +kernel, by decide +kernel⟩
theorem ok_ask (F : Df K mg "_law_asked" sAsk ["first", "one", "number"] f fd) (tR : RatT K mg C) (tI : IvT K mg C CI) (MI : IOk P w K mg base CX0 C 1 [] (spI K C ["top", "bottom"] preI postI)) (MCon : MOk P w K mg base CX0 CI "__contains__" 6 (spF K (preC1 C CI) postIn)) (MNear : MOk P w K mg base CX0 CI "nearest" 8 (spF K (preC1 C CI) fun ds r => r = neaI (a0 ds) (a1 ds)))
    (MIsS : MOk P w K mg base CX0 CI "is_single" 2 (spF K (preI1 C CI 1900) fun ds r => r = .bl (!isNon (lo (a0 ds)) && eqE (lo (a0 ds)) (hi (a0 ds))))) (GCont : KCont P w K mg base) (GPair : KPair P w K mg base C) (GEqual : KEqual P w K mg base) (GNea : DOk P w K mg base CX0 "_law_nearest" 2 (spF K preCon fun ds r => r = dE (neE (eL (a0 ds)) (eH (a0 ds)) (eD (a1 ds)))))
    (GPlus : KPlus P w K mg base) (GFlag : DOk P w K mg base CX0 "_law_flag" 1 (spF K (fun ds => ∃ a b : Bool, ds = [.bl a, .bl b]) fun ds r => ∀ a b : Bool, ds = [.bl a, .bl b] → r = .bl (a == b))) (GSameE : KSameE P w K mg base) :
    FnOk P w K mg base CX0 9 f fd ["first", "one", "number"] (spF K (fun ds => ∃ i l h c e, ds = [i, dI l h, dN c e] ∧ IE C CI 200 i l h ∧ OkK 215 c e) fun _ r => r = .bl true) := by
  refine ok_F F.fn scAsk (fun ds ⟨_, _, _, _, _, e, _⟩ => by rw [e]; rfl) fun cdv Ar outer sh Hp0 xE Fr ds hr hm ⟨i, l, h, c, e, eq, ei, oc⟩ => ?_
  have nd := scAsk.nd
  subst eq
  have vi := ei.ivd
  obtain ⟨⟨x, y, rfl, t1, t2⟩, o1, o2, oi⟩ := ei
  have goal1 : ∀ a b, contE (eL (a0 [dI l h, dN a b])) (eH (a0 [dI l h, dN a b])) (eD (a1 [dI l h, dN a b])) = contE l h (some (a, b)) := fun a b => by
    show contE (eL (dI l h)) (eH (dI l h)) (some (a, b)) = _
    rw [eL_dI, eH_dI]
  have neF : ∀ x : Bool, (!(x == x)) = false := fun x => by cases x <;> rfl
  show W _ _ _ _ _ [some (.d (ivl CI x y)), some (.d (dI l h)), some (.d (dN c e)), none, none, none, none]
  refine W.cons ?_
  refine W1.set 3 ?_ nd
  refine E.dmake MI tR.mgR (hr.mono (by decide)) ?_
  refine A.cons ?_
  refine E.ix ?_
  refine E.var 2 rfl ?_
  refine E.int ?_
  walk_at "ix"
  refine A.cons ?_
  refine E.ix ?_
  refine E.var 2 rfl ?_
  refine E.int ?_
  walk_at "ix"
  refine A.nil ?_
  refine ⟨[.int _, .int _], rfl, ⟨_, _, rfl, Int.ne_of_gt oc.1, oc.2.1.mono (by decide), oc.2.2.mono (by decide)⟩, ?_⟩
  rintro fs ⟨p, q, rfl, hn⟩
  have hn : Nrm c e p q := hn
  have op := low_ok hn oc
  walk_at "n"
  refine W.cons ?_
  refine W1.iff ?_
  refine T.cmp ?_
  refine E.cmp ?_
  refine E.var 3 rfl ?_
  refine E.var 0 rfl ?_
  refine O2.dIn MCon (hr.mono (by decide)) ⟨_, _, _, rfl, vi.mono, op.mono⟩ ?_
  rintro _ rfl
  refine ⟨_, rfl, ?_⟩
  refine E.dcall GCont (hr.mono (by decide)) ?_
  refine A.cons ?_
  refine E.var 1 rfl ?_
  refine A.cons ?_
  refine E.var 2 rfl ?_
  refine A.nil ?_
  refine ⟨[_, _], rfl, ⟨_, _, _, _, rfl, o1.mono, o2.mono, oc.mono⟩, ?_⟩
  rintro _ rfl
  walk_at "o"
  refine ⟨_, rfl, ?_⟩
  rw [goal1]
  show if (!((!bey x (rat C p q) && !bey (rat C p q) y) == contE l h (some (c, e)))) = true then _ else _
  rw [con_val t1 t2 o1 o2 oc hn, neF]
  refine iteF (W.nil ?_)
  obtain ⟨p2, q2, a, b, n1, n2, n3, n4⟩ := nea_val t1 t2 o1 o2 oc hn oi
  have oab : OkK 215 a b := by
    rcases n4 with z | z | ⟨rfl, rfl⟩
    · subst z; exact o1.num'.mono
    · subst z; exact o2.num'.mono
    · exact oc
  have op2 := low_ok n3 oab
  refine W.cons ?_
  refine W1.set 4 ?_ nd
  refine E.dcall GPair (hr.mono (by decide)) ?_
  refine A.cons ?_
  refine E.dmeth tI.cls MNear (hr.mono (by decide)) ?_
  refine E.var 0 rfl ?_
  refine ⟨_, _, rfl, rfl, ?_⟩
  refine A.cons ?_
  refine E.var 3 rfl ?_
  refine A.nil ?_
  refine ⟨[_], rfl, ⟨_, _, _, rfl, vi.mono, op.mono⟩, ?_⟩
  rintro _ rfl
  rw [show neaI (a0 [ivl CI x y, rat C p q]) (a1 [ivl CI x y, rat C p q]) = rat C p2 q2 from n1]
  refine A.nil ?_
  refine ⟨[_], rfl, ⟨_, _, rfl, op2.1⟩, ?_⟩
  rintro _ rfl
  walk_at "n"
  show W _ _ _ _ _ [some (.d (ivl CI x y)), some (.d (dI l h)), some (.d (dN c e)), some (.d (rat C p q)), some (.d (dN p2 q2)), none, none]
  refine W.cons ?_
  refine W1.iff ?_
  refine Tw.t ?_
  refine Tw.or ?_
  refine T.cmp ?_
  refine E.var 4 rfl ?_
  refine E.non ?_
  walk_at "o"
  refine ⟨_, rfl, ?_⟩
  refine iteF ?_
  refine Tw.or1 ?_
  refine T.not ?_
  refine T.truth ?_
  refine E.dcall GEqual (hr.mono (by decide)) ?_
  refine A.cons ?_
  refine E.var 4 rfl ?_
  refine A.cons ?_
  refine E.dcall GNea (hr.mono (by decide)) ?_
  refine A.cons ?_
  refine E.var 1 rfl ?_
  refine A.cons ?_
  refine E.var 2 rfl ?_
  refine A.nil ?_
  refine ⟨[_, _], rfl, ⟨_, _, _, _, rfl, o1.mono, o2.mono, oc.mono⟩, ?_⟩
  rintro _ rfl
  rw [show dE (neE (eL (a0 [dI l h, dN c e])) (eH (a0 [dI l h, dN c e])) (eD (a1 [dI l h, dN c e]))) = dN a b from by
    show dE (neE (eL (dI l h)) (eH (dI l h)) (some (c, e))) = _
    rw [eL_dI, eH_dI, n2]; rfl]
  refine A.nil ?_
  refine ⟨[_, _], rfl, nn op2.mono oab.mono, ?_⟩
  rintro r hr1
  have hr1 := hr1 _ _ _ _ rfl
  subst hr1
  rw [decide_eq_true n3.2.1]
  walk_at "tr"
  refine iteF (W.nil ?_)
  refine W.cut (fun o r => ∃ u v, r = [some (.d (ivl CI x y)), some (.d (dI l h)), some (.d (dN c e)), some (.d (rat C p q)), some (.d (dN p2 q2)), u, v]) ?_ ?_
  · refine W1.forT (fun i o r => ∃ u v, r = [some (.d (ivl CI x y)), some (.d (dI l h)), some (.d (dN c e)), some (.d (rat C p q)), some (.d (dN p2 q2)), u, v]) rfl PassesOwn.never ?_
    refine E.var 1 rfl ?_
    refine ⟨_, rfl, ⟨_, _, rfl⟩, ?_, fun _ _ z => z⟩
    rintro n d o ρ hd ⟨u, v, rfl⟩
    obtain ⟨z, rfl, oz, hz⟩ : ∃ z, d = dE z ∧ OkE 200 z ∧ contE l h z = true := by
      match n, hd with
      | 0, hd => cases hd; exact ⟨l, rfl, o1, by unfold contE; rw [lessE_self, oi]; rfl⟩
      | 1, hd => cases hd; exact ⟨h, rfl, o2, by unfold contE; rw [lessE_self, oi]; rfl⟩
      | n + 2, hd => simp at hd
    refine Tg.name 5 ?_ nd
    cases oz with
    | non =>
      show W _ _ _ _ _ [_, _, _, _, _, some (.d .non), _]
      refine W.cons ?_
      refine W1.iff ?_
      refine T.cmp ?_
      refine E.var 5 rfl ?_
      refine E.non ?_
      walk_at "o"
      refine ⟨_, rfl, ?_⟩
      exact iteF (W.nil (W.nil ⟨_, _, rfl⟩))
    | @num s t oz =>
      show W _ _ _ _ _ [some (.d (ivl CI x y)), some (.d (dI l h)), some (.d (dN c e)), some (.d (rat C p q)), some (.d (dN p2 q2)), some (.d (dN s t)), v]
      refine W.cons ?_
      refine W1.iff ?_
      refine T.cmp ?_
      refine E.var 5 rfl ?_
      refine E.non ?_
      walk_at "o"
      refine ⟨_, rfl, ?_⟩
      refine iteT ?_
      have o9 : OkK 10 1 999 := ⟨by decide, Bd.lit, Bd.lit⟩
      refine W.cons ?_
      refine W1.set 6 ?_ nd
      refine E.dcall GPlus (hr.mono (by decide)) ?_
      refine A.cons ?_
      refine E.var 5 rfl ?_
      refine A.cons ?_
      refine E.tup ?_
      refine A.cons ?_
      refine E.int ?_
      refine A.cons ?_
      refine E.int ?_
      refine A.nil ?_
      walk_at "disp"
      refine A.nil ?_
      refine ⟨[_, _], rfl, nn oz.mono o9.mono, ?_⟩
      rintro r hr1
      have hr1 := hr1 _ _ _ _ rfl
      subst hr1
      walk_at "n"
      have ow : OkK 1900 (plusD s t 1 999).1 (plusD s t 1 999).2 := by
        unfold plusD
        split
        · exact ⟨oz.1, (oz.2.1.add o9.2.1).mono (by decide), oz.2.2.mono (by decide)⟩
        · exact ⟨Int.mul_pos oz.1 o9.1, ((oz.2.1.mul o9.2.2).add (o9.2.1.mul oz.2.2)).mono (by decide), (oz.2.2.mul o9.2.2).mono (by decide)⟩
      generalize (plusD s t 1 999).1 = g1 at *
      generalize (plusD s t 1 999).2 = g2 at *
      refine W.cons ?_
      refine W1.iff ?_
      refine T.not ?_
      refine T.cmp ?_
      refine E.dmake MI tR.mgR (hr.mono (by decide)) ?_
      refine A.cons ?_
      refine E.ix ?_
      refine E.var 5 rfl ?_
      refine E.int ?_
      walk_at "ix"
      refine A.cons ?_
      refine E.ix ?_
      refine E.var 5 rfl ?_
      refine E.int ?_
      walk_at "ix"
      refine A.nil ?_
      refine ⟨[.int _, .int _], rfl, ⟨_, _, rfl, Int.ne_of_gt oz.1, oz.2.1.mono (by decide), oz.2.2.mono (by decide)⟩, ?_⟩
      rintro fs ⟨p3, q3, rfl, hn3⟩
      have hn3 : Nrm s t p3 q3 := hn3
      have op3 := low_ok hn3 oz
      refine E.var 0 rfl ?_
      refine O2.dIn MCon (hr.mono (by decide)) ⟨_, _, _, rfl, vi.mono, op3.mono⟩ ?_
      rintro _ rfl
      refine ⟨_, rfl, ?_⟩
      refine ⟨_, rfl, ?_⟩
      show if (!(!bey x (rat C p3 q3) && !bey (rat C p3 q3) y)) = true then _ else _
      rw [con_val t1 t2 o1 o2 oz hn3, hz]
      refine iteF (W.nil ?_)
      refine W.cons ?_
      refine W1.iff ?_
      refine T.cmp ?_
      refine E.cmp ?_
      refine E.dmake MI tR.mgR (hr.mono (by decide)) ?_
      refine A.cons ?_
      refine E.ix ?_
      refine E.var 6 rfl ?_
      refine E.int ?_
      walk_at "ix"
      refine A.cons ?_
      refine E.ix ?_
      refine E.var 6 rfl ?_
      refine E.int ?_
      walk_at "ix"
      refine A.nil ?_
      refine ⟨[.int _, .int _], rfl, ⟨_, _, rfl, Int.ne_of_gt ow.1, ow.2.1.mono (by decide), ow.2.2.mono (by decide)⟩, ?_⟩
      rintro fs ⟨p4, q4, rfl, hn4⟩
      have hn4 : Nrm g1 g2 p4 q4 := hn4
      have op4 := low_ok hn4 ow
      refine E.var 0 rfl ?_
      refine O2.dIn MCon (hr.mono (by decide)) ⟨_, _, _, rfl, vi.mono, op4⟩ ?_
      rintro _ rfl
      refine ⟨_, rfl, ?_⟩
      refine E.dcall GCont (hr.mono (by decide)) ?_
      refine A.cons ?_
      refine E.var 1 rfl ?_
      refine A.cons ?_
      refine E.var 6 rfl ?_
      refine A.nil ?_
      refine ⟨[_, _], rfl, ⟨_, _, _, _, rfl, o1.mono, o2.mono, ow⟩, ?_⟩
      rintro _ rfl
      walk_at "o"
      refine ⟨_, rfl, ?_⟩
      rw [goal1]
      show if (!((!bey x (rat C p4 q4) && !bey (rat C p4 q4) y) == contE l h (some (g1, g2)))) = true then _ else _
      rw [con_val t1 t2 o1 o2 ow hn4, neF]
      exact iteF (W.nil (W.nil (W.nil ⟨_, _, rfl⟩)))
  rintro o ρ ⟨u, v, rfl⟩
  have fin : ∀ b : Bool, b = (!isNon (dE l) && sameE l h) → ∀ r : D, (∀ a b' : Bool, [D.bl (!isNon (lo (a0 [ivl CI x y])) && eqE (lo (a0 [ivl CI x y])) (hi (a0 [ivl CI x y]))), D.bl b] = [.bl a, .bl b'] → r = .bl (a == b')) → ∃ d, R.d r = .d d ∧ d = .bl true := fun b hb r hr1 => ⟨_, rfl, by
    rw [hr1 _ _ rfl]
    show D.bl ((!isNon x && eqE x y) == b) = _
    rw [hb, t1.eqE t2 o1 o2]
    have : isNon x = isNon (dE l) := by cases t1 <;> rfl
    rw [this]
    cases (!isNon (dE l) && sameE l h) <;> rfl⟩
  cases o1 with
  | non =>
    refine W.cons ?_
    refine W1.ret ?_
    refine E.dcall GFlag (hr.mono (by decide)) ?_
    refine A.cons ?_
    refine E.dmeth0 tI.cls MIsS (hr.mono (by decide)) ?_
    refine E.var 0 rfl ?_
    skip
    refine ⟨_, _, rfl, rfl, ⟨_, rfl, vi.mono⟩, ?_⟩
    rintro _ rfl
    refine A.cons ?_
    refine E.and ?_
    refine E.cmp ?_
    refine E.ix ?_
    refine E.var 1 rfl ?_
    refine E.int ?_
    walk_at "ix"
    refine E.non ?_
    walk_at "o"
    refine ⟨_, rfl, ?_⟩
    refine iteF ?_
    refine A.nil ?_
    refine ⟨[_, _], rfl, ⟨_, _, rfl⟩, ?_⟩
    exact fun r hr1 => fin false rfl r hr1
  | @num a' b' o1 =>
    refine W.cons ?_
    refine W1.ret ?_
    refine E.dcall GFlag (hr.mono (by decide)) ?_
    refine A.cons ?_
    refine E.dmeth0 tI.cls MIsS (hr.mono (by decide)) ?_
    refine E.var 0 rfl ?_
    skip
    refine ⟨_, _, rfl, rfl, ⟨_, rfl, vi.mono⟩, ?_⟩
    rintro _ rfl
    refine A.cons ?_
    refine E.and ?_
    refine E.cmp ?_
    refine E.ix ?_
    refine E.var 1 rfl ?_
    refine E.int ?_
    walk_at "ix"
    refine E.non ?_
    walk_at "o"
    refine ⟨_, rfl, ?_⟩
    refine iteT ?_
    refine E.one ?_
    refine E.dcall GSameE (hr.mono (by decide)) ?_
    refine A.cons ?_
    refine E.ix ?_
    refine E.var 1 rfl ?_
    refine E.int ?_
    walk_at "ix"
    refine A.cons ?_
    refine E.ix ?_
    refine E.var 1 rfl ?_
    refine E.int ?_
    walk_at "ix"
    refine A.nil ?_
    refine ⟨[_, _], rfl, ⟨_, _, rfl, .num o1.mono, o2.mono⟩, ?_⟩
    rintro _ rfl
    refine A.nil ?_
    refine ⟨[_, _], rfl, ⟨_, _, rfl⟩, ?_⟩
    refine fun r hr1 => fin _ ?_ r hr1
    show sameE (eD (dE (some (a', b')))) (eD (dE h)) = (true && sameE (some (a', b')) h)
    rw [eD_dE, eD_dE, Bool.true_and]
end

section
variable {a b c e n d m k i p q r s x y : Int}
theorem l_add (h1 : Nrm a b n d) (h2 : Nrm c e m k) (h : Nrm (n * k + m * d) (d * k) p q) : Nrm (a * e + c * b) (b * e) p q := h.conv (Int.mul_ne_zero (nrm_pos_ne h1) (nrm_pos_ne h2)) (by
  have e1 := h1.2.1
  have e2 := h2.2.1
  grind)
theorem l_sub (h1 : Nrm a b n d) (h2 : Nrm c e m k) (h : Nrm (n * k - m * d) (d * k) p q) : Nrm (a * e - c * b) (b * e) p q := h.conv (Int.mul_ne_zero (nrm_pos_ne h1) (nrm_pos_ne h2)) (by
  have e1 := h1.2.1
  have e2 := h2.2.1
  grind)
theorem l_bus (h1 : Nrm a b n d) (h2 : Nrm c e m k) (h : Nrm (m * d - n * k) (k * d) p q) : Nrm (c * b - a * e) (b * e) p q := h.conv (Int.mul_ne_zero (nrm_pos_ne h2) (nrm_pos_ne h1)) (by
  have e1 := h1.2.1
  have e2 := h2.2.1
  grind)
theorem l_mul (h1 : Nrm a b n d) (h2 : Nrm c e m k) (h : Nrm (n * m) (d * k) p q) : Nrm (a * c) (b * e) p q := h.conv (Int.mul_ne_zero (nrm_pos_ne h1) (nrm_pos_ne h2)) (by
  have e1 := h1.2.1
  have e2 := h2.2.1
  grind)
theorem l_addI (h1 : Nrm a b n d) (h : Nrm (n * 1 + i * d) (d * 1) p q) : Nrm (a + i * b) b p q := h.conv (Int.mul_ne_zero (nrm_pos_ne h1) (by decide)) (by
  have e1 := h1.2.1
  grind)
theorem l_subI (h1 : Nrm a b n d) (h : Nrm (n * 1 - i * d) (d * 1) p q) : Nrm (a - i * b) b p q := h.conv (Int.mul_ne_zero (nrm_pos_ne h1) (by decide)) (by
  have e1 := h1.2.1
  grind)
theorem l_Isub (h1 : Nrm a b n d) (h : Nrm (i * d - n) d p q) : Nrm (i * b - a) b p q := h.conv (nrm_pos_ne h1) (by
  have e1 := h1.2.1
  grind)
theorem l_mulI (h1 : Nrm a b n d) (h : Nrm (n * i) (d * 1) p q) : Nrm (a * i) b p q := h.conv (Int.mul_ne_zero (nrm_pos_ne h1) (by decide)) (by
  have e1 := h1.2.1
  grind)
theorem l_neg (h1 : Nrm a b n d) (h : Nrm (-n) d p q) : Nrm (-a) b p q := h.conv (nrm_pos_ne h1) (by
  have e1 := h1.2.1
  grind)
theorem l_abs (h1 : Nrm a b n d) (h : Nrm (n.natAbs : Int) d p q) : Nrm (a.natAbs : Int) (b.natAbs : Int) p q := h.conv (nrm_pos_ne h1) (by
  have e1 := congrArg Int.natAbs h1.2.1
  have hd := h1.1
  rw [Int.natAbs_mul, Int.natAbs_mul] at e1
  have : (d.natAbs : Int) = d := by omega
  rw [← this, ← Int.natCast_mul, ← Int.natCast_mul, e1])
theorem l_back (h1 : Nrm a b n d) (h2 : Nrm c e m k) (he : e ≠ 0) (h3 : Nrm (a * e + c * b) (b * e) p q) (h : Nrm (p * k - m * q) (q * k) r s) : Nrm a b r s := h.conv (Int.mul_ne_zero (nrm_pos_ne h3) (nrm_pos_ne h2)) (by
  have e2 := h2.2.1
  have e3 := h3.2.1
  refine Int.eq_of_mul_eq_mul_right he ?_
  grind)
theorem l_sq (h1 : Nrm (a * e + c * b) (b * e) p q) (h2 : Nrm (a * e - c * b) (b * e) r s) (h : Nrm (p * r) (q * s) x y) : Nrm (a * e * (a * e) - c * b * (c * b)) (b * e * (b * e)) x y := h.conv (Int.mul_ne_zero (nrm_pos_ne h1) (nrm_pos_ne h2)) (by
  have e1 := h1.2.1
  have e2 := h2.2.1
  grind)
theorem l_over (h1 : Nrm a b n d) (h2 : Nrm c e m k) (hm : m ≠ 0) (h : Nrm (n * k) (d * m) p q) : Nrm (a * e) (c * b) p q := h.conv (Int.mul_ne_zero (nrm_pos_ne h1) hm) (by
  have e1 := h1.2.1
  have e2 := h2.2.1
  grind)
theorem l_mo (h2 : Nrm c e m k) (he : e ≠ 0) (hm : m ≠ 0) (h3 : Nrm (a * c) (b * e) p q) (h : Nrm (p * k) (q * m) r s) : Nrm a b r s := h.conv (Int.mul_ne_zero (nrm_pos_ne h3) hm) (by
  have e2 := h2.2.1
  have e3 := h3.2.1
  refine Int.eq_of_mul_eq_mul_right he ?_
  grind)
theorem l_overI (h1 : Nrm a b n d) (hi : i ≠ 0) (h : Nrm (n * 1) (d * i) p q) : Nrm a (i * b) p q := h.conv (Int.mul_ne_zero (nrm_pos_ne h1) hi) (by
  have e1 := h1.2.1
  grind)
end

theorem tv_inv {ws is : List D} {L H : En} (t : TV ws is L H) : (ws = [] ∧ is = [] ∧ L = some (0, 1) ∧ H = some (0, 1)) ∨ ∃ ws' is' c e l h l1 h1 l2 h2, ws = ws' ++ [dN c e] ∧ is = is' ++ [dI l1 h1] ∧ TV ws' is' l h ∧ StrV l1 h1 c e l2 h2 ∧ AddV l l2 L ∧ AddV h h2 H := by
  cases t with
  | nil => exact .inl ⟨rfl, rfl, rfl, rfl⟩
  | snoc t s a b => exact .inr ⟨_, _, _, _, _, _, _, _, _, _, rfl, rfl, t, s, a, b⟩
theorem snoc_inj {α : Type} {a b : List α} {x y : α} (h : a ++ [x] = b ++ [y]) : a = b ∧ x = y := by
  have := List.append_inj' h rfl
  exact ⟨this.1, by simpa using this.2⟩
theorem dI_inj {l h l' h' : En} (e : dI l h = dI l' h') : l = l' ∧ h = h' := by
  have e1 : eL (dI l h) = eL (dI l' h') := by rw [e]
  have e2 : eH (dI l h) = eH (dI l' h') := by rw [e]
  rw [eL_dI, eL_dI] at e1
  rw [eH_dI, eH_dI] at e2
  exact ⟨e1, e2⟩
/-- one turn of the law's adding up -/
theorem tv_snoc {ws is : List D} {c e : Int} {l1 h1 L H : En} (t : TV (ws ++ [dN c e]) (is ++ [dI l1 h1]) L H) : ∃ l h l2 h2, TV ws is l h ∧ StrV l1 h1 c e l2 h2 ∧ AddV l l2 L ∧ AddV h h2 H := by
  rcases tv_inv t with ⟨z, _⟩ | ⟨ws', is', c', e', l, h, l1', h1', l2, h2, z1, z2, t', s, a, b⟩
  · simp at z
  · obtain ⟨rfl, z⟩ := snoc_inj z1
    cases z
    obtain ⟨rfl, z⟩ := snoc_inj z2
    obtain ⟨rfl, rfl⟩ := dI_inj z
    exact ⟨l, h, l2, h2, t', s, a, b⟩
theorem tv_nil {L H : En} (t : TV [] [] L H) : L = some (0, 1) ∧ H = some (0, 1) := by
  rcases tv_inv t with ⟨_, _, a, b⟩ | ⟨ws', _, _, _, _, _, _, _, _, _, z, _⟩
  · exact ⟨a, b⟩
  · simp at z
theorem wi_inv {C CI : Addr} {ws is : List D} {t r : D} (h : WI C CI ws is t r) : (ws = [] ∧ is = [] ∧ r = t) ∨ ∃ ws' is' w i u m, ws = ws' ++ [w] ∧ is = is' ++ [i] ∧ WI C CI ws' is' t u ∧ MulIP C CI (lo i) (hi i) w m ∧ AddIP C CI (lo u) (hi u) (lo m) (hi m) r := by
  cases h with
  | nil => exact .inl ⟨rfl, rfl, rfl⟩
  | snoc h h1 h2 => exact .inr ⟨_, _, _, _, _, _, rfl, rfl, h, h1, h2⟩
theorem wi_snoc {C CI : Addr} {ws is : List D} {w i t r : D} (h : WI C CI (ws ++ [w]) (is ++ [i]) t r) : ∃ u m, WI C CI ws is t u ∧ MulIP C CI (lo i) (hi i) w m ∧ AddIP C CI (lo u) (hi u) (lo m) (hi m) r := by
  rcases wi_inv h with ⟨z, _⟩ | ⟨ws', is', w', i', u, m, z1, z2, h, h1, h2⟩
  · simp at z
  · obtain ⟨rfl, rfl⟩ := snoc_inj z1
    obtain ⟨rfl, rfl⟩ := snoc_inj z2
    exact ⟨u, m, h, h1, h2⟩
theorem wi_nil {C CI : Addr} {t r : D} (h : WI C CI [] [] t r) : r = t := by
  rcases wi_inv h with ⟨_, _, z⟩ | ⟨ws', is', w', i', u, m, z1, _⟩
  · exact z
  · simp at z1
theorem te_zero {C : Addr} {z : D} (h : isR C 0 1 z) : TE C z (some (0, 1)) := by
  obtain ⟨p, q, rfl, hn⟩ := h
  exact .rat hn
theorem te_add {C : Addr} {k j : Nat} {x y z : D} {l m r : En} (h1 : TE C x l) (h2 : TE C y m) (o1 : OkE k l) (o2 : OkE j m) (s : SumP C x y z) (a : AddV l m r) : TE C z r := by
  cases h1 with
  | non =>
    rcases s with ⟨_, rfl⟩ | ⟨s1, _⟩
    · cases a with
      | nl => exact .non
      | nr => exact .non
    · cases s1
  | rat h1 =>
    cases h2 with
    | non =>
      rcases s with ⟨_, rfl⟩ | ⟨_, s2, _⟩
      · cases a with
        | nr => exact .non
      · cases s2
    | rat h2 =>
      rcases s with ⟨s1, _⟩ | ⟨_, _, p, q, rfl, hn⟩
      · cases s1
      · cases a with
        | num h =>
          have b0 := Int.mul_ne_zero (Int.ne_of_gt o1.num'.1) (Int.ne_of_gt o2.num'.1)
          exact .rat ((l_add h1 h2 hn).conv b0 h.2.1.symm)
theorem te_mul {C : Addr} {k : Nat} {x f z : D} {l r : En} {c e : Int} (h1 : TE C x l) (o1 : OkE k l) (hf : nu f * e = c * de f) (hd : de f ≠ 0) (he : e ≠ 0) (s : MulP C x f z) (m : MulV l c e r) : TE C z r := by
  cases h1 with
  | non =>
    rcases s with ⟨_, rfl⟩ | ⟨s1, _⟩
    · cases m; exact .non
    · cases s1
  | @rat a b n d h1 =>
    rcases s with ⟨s1, _⟩ | ⟨_, p, q, rfl, hn⟩
    · cases s1
    · cases m with
      | @num _ _ _ _ p' q' h =>
        have hn : Nrm (n * nu f) (d * de f) p q := hn
        have e1 := h1.2.1
        have b0 := Int.ne_of_gt o1.num'.1
        have x1 : Nrm (a * c) (b * e) p q := hn.conv (Int.mul_ne_zero (nrm_pos_ne h1) hd) (by
          have r1 : n * nu f * (b * e) = n * b * (nu f * e) := by grind
          have r2 : a * c * (d * de f) = a * d * (c * de f) := by grind
          rw [r1, r2, e1, hf])
        exact .rat (x1.conv (Int.mul_ne_zero b0 he) h.2.1.symm)
theorem te_mul1 {C : Addr} {k : Nat} {x : D} {l r : En} (h1 : TE C x l) (o1 : OkE k l) (m : MulV l 1 1 r) : TE C x r := by
  cases h1 with
  | non => cases m; exact .non
  | rat h1 => cases m with
    | num h =>
      rw [Int.mul_one, Int.mul_one] at h
      exact .rat (h1.conv (Int.ne_of_gt o1.num'.1) h.2.1.symm)
theorem te_add0 {C : Addr} {k : Nat} {x : D} {l r : En} (h1 : TE C x l) (o1 : OkE k l) (a : AddV (some (0, 1)) l r) : TE C x r := by
  cases h1 with
  | non => cases a; exact .non
  | rat h1 => cases a with
    | num h =>
      rw [Int.zero_mul, Int.zero_add, Int.mul_one, Int.one_mul] at h
      exact .rat (h1.conv (Int.ne_of_gt o1.num'.1) h.2.1.symm)
/-- an interval times a number, told and due -/
theorem ie_mul {C CI : Addr} {k j : Nat} {x y f r : D} {l h l' h' : En} {c e : Int} (t1 : TE C x l) (t2 : TE C y h) (o1 : OkE k l) (o2 : OkE k h) (oc : OkK j c e) (hf : nu f * e = c * de f) (hd : 0 < de f) (m : MulIP C CI x y f r) (s : StrV l h c e l' h') : ∃ z z', r = ivl CI z z' ∧ TE C z l' ∧ TE C z' h' := by
  have he := Int.ne_of_gt oc.1
  have sg : (nu f = 0 ↔ c = 0) ∧ (0 < nu f ↔ 0 < c) := by
    have p1 := oc.1
    constructor
    · constructor
      · intro z; rw [z, Int.zero_mul] at hf; exact (Int.mul_eq_zero.mp hf.symm).resolve_right (Int.ne_of_gt hd)
      · intro z; rw [z, Int.zero_mul] at hf; exact (Int.mul_eq_zero.mp hf).resolve_right he
    · constructor
      · intro z
        have := Int.mul_pos z p1
        rw [hf] at this
        exact Int.pos_of_mul_pos_left this hd
      · intro z
        have := Int.mul_pos z hd
        rw [← hf] at this
        exact Int.pos_of_mul_pos_left this p1
  rcases m with ⟨z, a, b, rfl, m1, m2⟩ | ⟨z, a, b, rfl, m1, m2⟩ | ⟨z, a, b, rfl, m1, m2⟩
  · have c0 := sg.1.mp z
    rcases s with ⟨_, rfl, rfl⟩ | ⟨s0, _⟩ | ⟨s0, _⟩
    · exact ⟨_, _, rfl, te_zero m1, te_zero m2⟩
    · omega
    · omega
  · have c0 := sg.2.mp z
    rcases s with ⟨s0, _⟩ | ⟨_, s1, s2⟩ | ⟨s0, _⟩
    · omega
    · exact ⟨_, _, rfl, te_mul t1 o1 hf (Int.ne_of_gt hd) he m1 s1, te_mul t2 o2 hf (Int.ne_of_gt hd) he m2 s2⟩
    · omega
  · have c0 : c < 0 := by
      have n1 : ¬ c = 0 := fun w => absurd (sg.1.mpr w) (by omega)
      have n2 : ¬ 0 < c := fun w => absurd (sg.2.mpr w) (by omega)
      omega
    rcases s with ⟨s0, _⟩ | ⟨s0, _⟩ | ⟨_, s1, s2⟩
    · omega
    · omega
    · exact ⟨_, _, rfl, te_mul t2 o2 hf (Int.ne_of_gt hd) he m1 s1, te_mul t1 o1 hf (Int.ne_of_gt hd) he m2 s2⟩

section
variable {P : Program} {w : World} {K : PySem.W.Frag} {mg : Str → Option Value} {base : Heap} {C CI : Addr} {f : Addr} {fd : FuncData}
abbrev KTot (P : Program) (w : World) (K : PySem.W.Frag) (mg : Str → Option Value) (base : Heap) : Prop := DOk P w K mg base CX0 "_law_total" 4 (spF K preTot postTot)
/-- the sum of two intervals against the law's -/
theorem sum_val {i j r : D} {l h l' h' L H : En} (ei : IE C CI 200 i l h) (ej : IE C CI 200 j l' h') (s : AddIP C CI (lo i) (hi i) (lo j) (hi j) r) (t : TV [dN 1 1, dN 1 1] [dI l h, dI l' h'] L H) : ∃ z z', r = ivl CI z z' ∧ TE C z L ∧ TE C z' H ∧ OkE 1900 L ∧ OkE 1900 H := by
  obtain ⟨⟨x, y, rfl, t1, t2⟩, o1, o2, oi⟩ := ei
  obtain ⟨⟨x', y', rfl, t3, t4⟩, o3, o4, oj⟩ := ej
  obtain ⟨z, z', rfl, s1, s2⟩ := s
  obtain ⟨l1, h1, l2, h2, t, st2, a1', a2'⟩ := tv_snoc (ws := [dN 1 1]) (is := [dI l h]) t
  obtain ⟨l3, h3, l4, h4, t, st1, b1, b2⟩ := tv_snoc (ws := []) (is := []) t
  obtain ⟨rfl, rfl⟩ := tv_nil t
  have one : OkK 1 1 1 := ⟨by decide, Bd.lit, Bd.lit⟩
  have str1 : ∀ {l h l' h' : En}, StrV l h 1 1 l' h' → MulV l 1 1 l' ∧ MulV h 1 1 h' := fun s => by
    rcases s with ⟨z, _⟩ | ⟨_, a, b⟩ | ⟨z, _⟩
    · cases z
    · exact ⟨a, b⟩
    · exact absurd z (by decide)
  obtain ⟨m1, m2⟩ := str1 st1
  obtain ⟨m3, m4⟩ := str1 st2
  have q1 := m1.ok o1 one
  have q2 := m2.ok o2 one
  have q3 := m3.ok o3 one
  have q4 := m4.ok o4 one
  have r1 := b1.ok ok01 q1
  have r2 := b2.ok ok01 q2
  have g1 := te_add0 (te_mul1 t1 o1 m1) q1 b1
  have g2 := te_add0 (te_mul1 t2 o2 m2) q2 b2
  have g3 := te_mul1 t3 o3 m3
  have g4 := te_mul1 t4 o4 m4
  exact ⟨z, z', rfl, te_add g1 g3 r1 q3 s1 a1', te_add g2 g4 r2 q4 s2 a2', (a1'.ok r1 q3).mono, (a2'.ok r2 q4).mono⟩
abbrev sSums : Stmt := top 61
theorem scSums : FnScope ["first", "second", "one", "two", "factor", "whole", "number", "plus", "told"] ["first", "second", "one", "two", "factor", "whole"] (defScope sSums) := ⟨rfl, rfl, rfl, by decide +kernel, rfl, by decide +kernel, by decide +kernel⟩
theorem ok_sums {kr : Nat} {spr : Sp} (F : Df K mg "_law_sums" sSums ["first", "second", "one", "two", "factor", "whole"] f fd) (tR : RatT K mg C) (tI : IvT K mg C CI) (MI : IOk P w K mg base CX0 C 1 [] (spI K C ["top", "bottom"] preI postI)) (MMul : MOk P w K mg base CX0 C "__mul__" 3 (spF K (pre2 C) (postMul C))) (MRmul : MOk P w K mg base CX0 C "__rmul__" 4 (spF K (preI2 C) (postMul C)))
    (NMul : NOk P w K mg base C "__mul__" 1 (fun ds => ∃ n d x y, ds = [rat C n d, ivl CI x y])) (MIAdd : MOk P w K mg base CX0 CI "__add__" 8 (spF K (preII C CI 900) (postIAdd C CI))) (MIMul : KIMul P w K mg base C CI) (MIR : MOk P w K mg base CX0 CI "__rmul__" 9 (spF K (preIM C CI) (postIM C CI)))
    (MINeg : MOk P w K mg base CX0 CI "__neg__" 9 (spF K (preI1 C CI 900) fun ds => MulIP C CI (lo (a0 ds)) (hi (a0 ds)) (.int (-1)))) (GTot : KTot P w K mg base) (GStr : KStr P w K mg base) (GSameT : KSameT P w K mg base C CI) :
    FnOk P w K mg base CX0 10 f fd ["first", "second", "one", "two", "factor", "whole"] (spF K (fun ds => ∃ i j l h l' h' c e n, ds = [i, j, dI l h, dI l' h', dN c e, .int n] ∧ IE C CI 200 i l h ∧ IE C CI 200 j l' h' ∧ OkK 200 c e ∧ Bd 200 n) fun _ r => r = .bl true) := by
  refine ok_F F.fn scSums (fun ds ⟨_, _, _, _, _, _, _, _, _, e, _⟩ => by rw [e]; rfl) fun cdv Ar outer sh Hp0 xE Fr ds hr hm ⟨i, j, l, h, l', h', c, e, n, eq, ei, ej, oc, on⟩ => ?_
  have nd := scSums.nd
  subst eq
  have vi := ei.ivd
  have vj := ej.ivd
  have sums := @sum_val C CI i j
  obtain ⟨⟨x, y, rfl, t1, t2⟩, o1, o2, oi⟩ := id ei
  obtain ⟨⟨x', y', rfl, t3, t4⟩, o3, o4, oj⟩ := id ej
  have one : OkK 1 1 1 := ⟨by decide, Bd.lit, Bd.lit⟩
  show W _ _ _ _ _ [some (.d (ivl CI x y)), some (.d (ivl CI x' y')), some (.d (dI l h)), some (.d (dI l' h')), some (.d (dN c e)), some (.d (.int n)), none, none, none]
  refine W.cons ?_
  refine W1.set 6 ?_ nd
  refine E.dmake MI tR.mgR (hr.mono (by decide)) ?_
  refine A.cons ?_
  refine E.ix ?_
  refine E.var 4 rfl ?_
  refine E.int ?_
  walk_at "ix"
  refine A.cons ?_
  refine E.ix ?_
  refine E.var 4 rfl ?_
  refine E.int ?_
  walk_at "ix"
  refine A.nil ?_
  refine ⟨[.int _, .int _], rfl, ⟨_, _, rfl, Int.ne_of_gt oc.1, oc.2.1.mono (by decide), oc.2.2.mono (by decide)⟩, ?_⟩
  rintro fs ⟨p, q, rfl, hn⟩
  have hn : Nrm c e p q := hn
  have op := low_ok hn oc
  walk_at "n"
  refine W.cons ?_
  refine W1.set 7 ?_ nd
  refine E.dcall GTot (hr.mono (by decide)) ?_
  refine A.cons ?_
  refine E.lst ?_
  refine A.cons ?_
  refine E.tup ?_
  refine A.cons ?_
  refine E.int ?_
  refine A.cons ?_
  refine E.int ?_
  refine A.nil ?_
  walk_at "disp"
  refine A.cons ?_
  refine E.tup ?_
  refine A.cons ?_
  refine E.int ?_
  refine A.cons ?_
  refine E.int ?_
  refine A.nil ?_
  walk_at "disp"
  refine A.nil ?_
  walk_at "disp"
  refine A.cons ?_
  refine E.lst ?_
  refine A.cons ?_
  refine E.var 2 rfl ?_
  refine A.cons ?_
  refine E.var 3 rfl ?_
  refine A.nil ?_
  walk_at "disp"
  refine A.nil ?_
  refine ⟨[.lst _, .lst _], rfl, ⟨[dN 1 1, dN 1 1], [dI l h, dI l' h'], rfl, rfl, Nat.le_refl _, ?_, ?_⟩, ?_⟩
  · intro w hw
    rcases List.mem_cons.mp hw with z | hw
    · exact ⟨1, 1, z, one.mono⟩
    · exact ⟨1, 1, List.mem_singleton.mp hw, one.mono⟩
  · intro w hw
    rcases List.mem_cons.mp hw with z | hw
    · exact ⟨_, _, z, o1, o2⟩
    · exact ⟨_, _, List.mem_singleton.mp hw, o3, o4⟩
  rintro _ ⟨L, H, rfl, tv⟩
  have tv : TV [dN 1 1, dN 1 1] [dI l h, dI l' h'] L H := tv
  walk_at "n"
  refine W.cons ?_
  refine W1.iff ?_
  refine Tw.t ?_
  refine Tw.or ?_
  refine T.not ?_
  refine T.truth ?_
  refine E.dcall GSameT (hr.mono (by decide)) ?_
  refine A.cons ?_
  refine E.bin ?_
  refine E.var 0 rfl ?_
  refine E.var 1 rfl ?_
  refine O2.dB tI.sf dn_add MIAdd (hr.mono (by decide)) ⟨_, _, rfl, vi.mono, vj.mono⟩ ?_
  rintro r hs
  obtain ⟨z, z', rfl, u1, u2, u3, u4⟩ := sum_val ei ej hs tv
  refine A.cons ?_
  refine E.var 7 rfl ?_
  refine A.nil ?_
  refine ⟨[_, _], rfl, ⟨_, _, _, _, rfl, u1, u2, u3, u4⟩, ?_⟩
  rintro _ rfl
  walk_at "tr"
  refine iteF ?_
  refine Tw.or1 ?_
  refine T.not ?_
  refine T.truth ?_
  refine E.dcall GSameT (hr.mono (by decide)) ?_
  refine A.cons ?_
  refine E.bin ?_
  refine E.var 1 rfl ?_
  refine E.var 0 rfl ?_
  refine O2.dB tI.sf dn_add MIAdd (hr.mono (by decide)) ⟨_, _, rfl, vj.mono, vi.mono⟩ ?_
  rintro r hs2
  have hs2 : AddIP C CI x y x' y' r := by
    obtain ⟨a, b, e, s1, s2⟩ := (show AddIP C CI x' y' x y r from hs2)
    have sw : ∀ {x y r : D}, SumP C x y r → SumP C y x r := fun {x y r} s => by
      rcases s with ⟨z, e⟩ | ⟨z1, z2, p, q, e, hn⟩
      · exact .inl ⟨by rw [Bool.or_comm]; exact z, e⟩
      · exact .inr ⟨z2, z1, p, q, e, by rw [Int.add_comm, Int.mul_comm (de y)]; exact hn⟩
    exact ⟨a, b, e, sw s1, sw s2⟩
  obtain ⟨z2, z2', rfl, u1, u2, u3, u4⟩ := sum_val ei ej hs2 tv
  refine A.cons ?_
  refine E.var 7 rfl ?_
  refine A.nil ?_
  refine ⟨[_, _], rfl, ⟨_, _, _, _, rfl, u1, u2, u3, u4⟩, ?_⟩
  rintro _ rfl
  walk_at "tr"
  refine iteF (W.nil ?_)
  -- first * number, number * first
  have vm : ∀ m : D, MulIP C CI x y (rat C p q) m → ∀ L2 H2 : En, StrV l h c e L2 H2 → ∃ a b L3 H3, [m, dI L2 H2] = [ivl CI a b, dI L3 H3] ∧ TE C a L3 ∧ TE C b H3 ∧ OkE 1900 L3 ∧ OkE 1900 H3 := fun m hm L2 H2 s => by
    obtain ⟨a, b, rfl, v1, v2⟩ := ie_mul t1 t2 o1 o2 oc (f := rat C p q) hn.2.1 hn.1 hm s
    have os := s.ok o1 o2 oc (by decide)
    exact ⟨a, b, L2, H2, rfl, v1, v2, os.1.mono, os.2.mono⟩
  refine W.cut (fun o r => ∃ u, r = [some (.d (ivl CI x y)), some (.d (ivl CI x' y')), some (.d (dI l h)), some (.d (dI l' h')), some (.d (dN c e)), some (.d (.int n)), some (.d (rat C p q)), some (.d (dI L H)), u]) ?_ ?_
  · refine W1.forL (fun i o r => ∃ u, r = [some (.d (ivl CI x y)), some (.d (ivl CI x' y')), some (.d (dI l h)), some (.d (dI l' h')), some (.d (dN c e)), some (.d (.int n)), some (.d (rat C p q)), some (.d (dI L H)), u]) rfl PassesOwn.never ?_
    refine E.lst ?_
    refine A.cons ?_
    refine E.bin ?_
    refine E.var 0 rfl ?_
    refine E.var 6 rfl ?_
    refine O2.ivMul tR tI MIMul MIR MMul MRmul (hr.mono (by decide)) (.inl ⟨_, _, _, rfl, vi.mono, op.mono⟩) fun m1 hm1 => ?_
    refine A.cons ?_
    refine E.bin ?_
    refine E.var 6 rfl ?_
    refine E.var 0 rfl ?_
    refine O2.dN2 tI.ne tR.sf tI.sf dn_mul dr_mul NMul MIR MRmul MIMul (hr.mono (by decide)) (hr.mono (by decide)) tI.sIC ⟨_, _, _, _, rfl⟩ (.inl ⟨_, _, _, rfl, vi.mono, op.mono⟩) fun m2 hm2 => ?_
    refine A.nil ?_
    walk_at "disp"
    refine ⟨_, .inl rfl, ⟨_, rfl⟩, ?_, fun _ _ z => z⟩
    rintro k d o ρ hd ⟨u, rfl⟩
    obtain ⟨hmd⟩ : Nonempty (MulIP C CI x y (rat C p q) d) := by
      match k, hd with
      | 0, hd => cases hd; exact ⟨hm1⟩
      | 1, hd => cases hd; exact ⟨hm2⟩
      | k + 2, hd => simp at hd
    refine Tg.name 8 ?_ nd
    refine W.cons ?_
    refine W1.iff ?_
    refine T.not ?_
    refine T.truth ?_
    refine E.dcall GSameT (hr.mono (by decide)) ?_
    refine A.cons ?_
    refine E.var 8 rfl ?_
    refine A.cons ?_
    refine E.dcall GStr (hr.mono (by decide)) ?_
    refine A.cons ?_
    refine E.var 2 rfl ?_
    refine A.cons ?_
    refine E.var 4 rfl ?_
    refine A.nil ?_
    refine ⟨[_, _], rfl, ⟨l, h, c, e, rfl, o1.mono, o2.mono, oc.mono⟩, ?_⟩
    rintro r hr1
    obtain ⟨L2, H2, rfl, hs⟩ := hr1 l h c e eL_dI eH_dI rfl
    refine A.nil ?_
    refine ⟨[_, _], rfl, vm d hmd L2 H2 hs, ?_⟩
    rintro _ rfl
    walk_at "tr"
    exact iteF (W.nil (W.nil ⟨_, rfl⟩))
  rintro o ρ ⟨u, rfl⟩
  have onn : OkK 200 n 1 := ⟨by decide, on, (Bd.lit (k := 1) (x := 1)).mono (by decide)⟩
  have vn : ∀ m : D, MulIP C CI x y (.int n) m → ∀ L2 H2 : En, StrV l h n 1 L2 H2 → ∃ a b L3 H3, [m, dI L2 H2] = [ivl CI a b, dI L3 H3] ∧ TE C a L3 ∧ TE C b H3 ∧ OkE 1900 L3 ∧ OkE 1900 H3 := fun m hm L2 H2 s => by
    obtain ⟨a, b, rfl, v1, v2⟩ := ie_mul t1 t2 o1 o2 onn (f := .int n) rfl (show (0 : Int) < 1 by decide) hm s
    have os := s.ok o1 o2 onn (by decide)
    exact ⟨a, b, L2, H2, rfl, v1, v2, os.1.mono, os.2.mono⟩
  refine W.cut (fun o r => ∃ u, r = [some (.d (ivl CI x y)), some (.d (ivl CI x' y')), some (.d (dI l h)), some (.d (dI l' h')), some (.d (dN c e)), some (.d (.int n)), some (.d (rat C p q)), some (.d (dI L H)), u]) ?_ ?_
  · refine W1.forL (fun i o r => ∃ u, r = [some (.d (ivl CI x y)), some (.d (ivl CI x' y')), some (.d (dI l h)), some (.d (dI l' h')), some (.d (dN c e)), some (.d (.int n)), some (.d (rat C p q)), some (.d (dI L H)), u]) rfl PassesOwn.never ?_
    refine E.lst ?_
    refine A.cons ?_
    refine E.bin ?_
    refine E.var 0 rfl ?_
    refine E.var 5 rfl ?_
    refine O2.ivMul tR tI MIMul MIR MMul MRmul (hr.mono (by decide)) (.inr ⟨_, _, rfl, vi.mono, on.mono (by decide)⟩) fun m1 hm1 => ?_
    refine A.cons ?_
    refine E.bin ?_
    refine E.var 5 rfl ?_
    refine E.var 0 rfl ?_
    refine O2.dR tI.sf dn_mul dr_mul MIR MIMul (hr.mono (by decide)) PySem.F.fills_int_mul PySem.F.slot_int_mul PySem.F.entry_int_mul (fun _ _ _ => PySem.F.args_int_mul_2 _ _) (fun _ _ _ _ => Own.decl_mul) tI.sIi (.inr ⟨_, _, rfl, vi.mono, on.mono (by decide)⟩) fun m2 hm2 => ?_
    refine A.nil ?_
    walk_at "disp"
    refine ⟨_, .inl rfl, ⟨_, rfl⟩, ?_, fun _ _ z => z⟩
    rintro k d o ρ hd ⟨u, rfl⟩
    obtain ⟨hmd⟩ : Nonempty (MulIP C CI x y (.int n) d) := by
      match k, hd with
      | 0, hd => cases hd; exact ⟨hm1⟩
      | 1, hd => cases hd; exact ⟨hm2⟩
      | k + 2, hd => simp at hd
    refine Tg.name 8 ?_ nd
    refine W.cons ?_
    refine W1.iff ?_
    refine T.not ?_
    refine T.truth ?_
    refine E.dcall GSameT (hr.mono (by decide)) ?_
    refine A.cons ?_
    refine E.var 8 rfl ?_
    refine A.cons ?_
    refine E.dcall GStr (hr.mono (by decide)) ?_
    refine A.cons ?_
    refine E.var 2 rfl ?_
    refine A.cons ?_
    refine E.tup ?_
    refine A.cons ?_
    refine E.var 5 rfl ?_
    refine A.cons ?_
    refine E.int ?_
    refine A.nil ?_
    walk_at "disp"
    refine A.nil ?_
    refine ⟨[_, _], rfl, ⟨l, h, n, 1, rfl, o1.mono, o2.mono, onn.mono⟩, ?_⟩
    rintro r hr1
    obtain ⟨L2, H2, rfl, hs⟩ := hr1 l h n 1 eL_dI eH_dI rfl
    refine A.nil ?_
    refine ⟨[_, _], rfl, vn d hmd L2 H2 hs, ?_⟩
    rintro _ rfl
    walk_at "tr"
    exact iteF (W.nil (W.nil ⟨_, rfl⟩))
  rintro o ρ ⟨u, rfl⟩
  have om : OkK 1 (-1) 1 := ⟨by decide, Bd.lit, Bd.lit⟩
  refine W.cons ?_
  refine W1.ret ?_
  refine E.dcall GSameT (hr.mono (by decide)) ?_
  refine A.cons ?_
  refine E.un ?_
  refine E.var 0 rfl ?_
  refine O1.dN MINeg (hr.mono (by decide)) ⟨_, rfl, vi.mono⟩ fun m hm => ?_
  refine A.cons ?_
  refine E.dcall GStr (hr.mono (by decide)) ?_
  refine A.cons ?_
  refine E.var 2 rfl ?_
  refine A.cons ?_
  refine E.tup ?_
  refine A.cons ?_
  refine E.un ?_
  refine E.int ?_
  walk_at "u"
  refine A.cons ?_
  refine E.int ?_
  refine A.nil ?_
  walk_at "disp"
  refine A.nil ?_
  refine ⟨[_, _], rfl, ⟨l, h, -1, 1, rfl, o1.mono, o2.mono, om.mono⟩, ?_⟩
  rintro r hr1
  obtain ⟨L2, H2, rfl, hs⟩ := hr1 l h (-1) 1 eL_dI eH_dI rfl
  refine A.nil ?_
  obtain ⟨a, b, rfl, v1, v2⟩ := ie_mul t1 t2 o1 o2 om (f := .int (-1)) rfl (show (0 : Int) < 1 by decide) hm hs
  have os := hs.ok o1 o2 om (by decide)
  refine ⟨[_, _], rfl, ⟨a, b, L2, H2, rfl, v1, v2, os.1.mono, os.2.mono⟩, ?_⟩
  rintro _ rfl
  exact ⟨_, rfl, rfl⟩
end

theorem bt_ValueError : bootBuiltins "ValueError" = some (.type "ValueError") := by decide +kernel
local macro_rules | `(tactic| walk_at "cl") => `(tactic| refine Cl.isiExc (by assumption) (by assumption) (by assumption) (fun _ _ => relv_ref) (by assumption) ?_)
local macro_rules | `(tactic| walk_at "cl") => `(tactic| refine Cl.isiExc (by assumption) (by assumption) (by assumption) (fun _ _ => relv_ty) (by assumption) ?_)
/-- the errors: EmptyInterval Z, WrongCount Y, their base S -/
structure ErT (K : PySem.W.Frag) (mg : Str → Option Value) (Z Y S : Addr) : Prop where
  mgE : mg "EmptyInterval" = some (.ref Z)
  mgW : mg "WrongCount" = some (.ref Y)
  mgS : mg "SpotError" = some (.ref S)
  mgV : mg "ValueError" = none
  xE : ExcC K Z
  xW : ExcC K Y
  mE : PySem.W.exmOne K (.ref Z) (.ref S) = some true
  mEE : PySem.W.exmOne K (.ref Z) (.ref Z) = some true
  mW : PySem.W.exmOne K (.ref Y) (.ref S) = some true
  kEE : PySem.W.kitOne K (.ref Z) (.ref Z) = some true
  kEV : PySem.W.kitOne K (.ref Z) (.type "ValueError") = some true
  kEW : PySem.W.kitOne K (.ref Z) (.ref Y) = some false
  kES : PySem.W.kitOne K (.ref Z) (.ref S) = some true
  kWW : PySem.W.kitOne K (.ref Y) (.ref Y) = some true
  kWE : PySem.W.kitOne K (.ref Y) (.ref Z) = some false
section
variable {P : Program} {w : World} {K : PySem.W.Frag} {mg : Str → Option Value} {base : Heap} {C CI Z Y S : Addr} {f : Addr} {fd : FuncData}
abbrev sEmp : Stmt := top 56
theorem scEmp : FnScope ["low", "high", "kinds", "e"] ["low", "high"] (defScope sEmp) := ⟨rfl, rfl, rfl, by decide +kernel, rfl, by decide +kernel, by decide +kernel⟩
theorem ok_emp (F : Df K mg "_law_empty" sEmp ["low", "high"] f fd) (B : Bl mg) (tR : RatT K mg C) (tI : IvT K mg C CI) (tX : ErT K mg Z Y S) (MI : IOk P w K mg base CX0 C 1 [] (spI K C ["top", "bottom"] preI postI)) (MVX : IOk P w K mg base (L2.CX P w) CI 6 [] (spIX K CI ["low", "high"] (preEE C) postVX (excV Z))) :
    FnOk P w K mg base CX0 8 f fd ["low", "high"] (spF K (fun ds => ∃ a b c e, ds = [dN a b, dN c e] ∧ OkK 1900 a b ∧ OkK 1900 c e ∧ c * b < a * e) fun _ r => r = .bl true) := by
  refine ok_F F.fn scEmp (fun ds ⟨_, _, _, _, e, _⟩ => by rw [e]; rfl) fun cdv Ar outer sh Hp0 xE Fr ds hr hm ⟨a, b, c, e, eq, o1, o2, hlt⟩ => ?_
  have nd := scEmp.nd
  subst eq
  show W _ _ _ _ _ [some (.d (dN a b)), some (.d (dN c e)), none, none]
  refine W.cons ?_
  refine W1.set 2 ?_ nd
  refine E.lst ?_
  refine A.nil ?_
  walk_at "disp"
  walk_at "n"
  refine W.cut (fun o r => ∃ u, r = [some (.d (dN a b)), some (.d (dN c e)), some (.d (.lst [.bl true, .bl true, .bl false])), u]) ?_ ?_
  · refine W1.tryAs (n := "e") (i := 3) (c := .ref S) (fun cls o r => cls = .ref Z ∧ r = [some (.d (dN a b)), some (.d (dN c e)), some (.d (.lst [])), none]) rfl rfl nd rfl rfl ⟨rfl, by decide, Or.inl tX.mgS⟩ takes0 ?_ ?_
    · intro pn xe F' e1 e2 e3 po tk
      refine W.cons ?_
      refine W1.expr ?_
      refine E.dmakeX tk MVX tI.mgI (hr.mono (by decide)) ?_
      refine A.cons ?_
      refine E.dmake MI tR.mgR (hr.mono (by decide)) ?_
      refine A.cons ?_
      refine E.ix ?_
      refine E.var 0 rfl ?_
      refine E.int ?_
      walk_at "ix"
      refine A.cons ?_
      refine E.ix ?_
      refine E.var 0 rfl ?_
      refine E.int ?_
      walk_at "ix"
      refine A.nil ?_
      refine ⟨[.int _, .int _], rfl, ⟨_, _, rfl, Int.ne_of_gt o1.1, o1.2.1.mono (by decide), o1.2.2.mono (by decide)⟩, ?_⟩
      rintro fs ⟨p, q, rfl, hn⟩
      have hn : Nrm a b p q := hn
      refine A.cons ?_
      refine E.dmake MI tR.mgR (hr.mono (by decide)) ?_
      refine A.cons ?_
      refine E.ix ?_
      refine E.var 1 rfl ?_
      refine E.int ?_
      walk_at "ix"
      refine A.cons ?_
      refine E.ix ?_
      refine E.var 1 rfl ?_
      refine E.int ?_
      walk_at "ix"
      refine A.nil ?_
      refine ⟨[.int _, .int _], rfl, ⟨_, _, rfl, Int.ne_of_gt o2.1, o2.2.1.mono (by decide), o2.2.2.mono (by decide)⟩, ?_⟩
      rintro fs ⟨r, s, rfl, hm⟩
      have hm : Nrm c e r s := hm
      refine A.nil ?_
      have hb : bey (rat C p q) (rat C r s) = true := by rw [bey_rr]; exact decide_eq_true ((cmp_conv hn hm o1.1 o2.1).mpr hlt)
      refine ⟨[_, _], rfl, ⟨_, _, rfl, .rat (low_ok hn o1), .rat (low_ok hm o2)⟩, ?_, ?_⟩
      · rintro fs ⟨_, hz⟩
        have hz : bey (rat C p q) (rat C r s) = false := hz
        rw [hb] at hz; cases hz
      · rintro c ⟨_, rfl⟩
        exact ⟨rfl, rfl⟩
    · rintro ad oe cls pn o ρ hz hf ⟨rfl, rfl⟩
      refine ⟨tX.mE, ?_⟩
      have x1 := tX.xE
      have x2 := tX.kEE
      have x3 := tX.kEV
      have x4 := tX.kEW
      refine W.cons ?_
      refine W1.set 2 ?_ nd
      refine E.lst ?_
      refine A.cons ?_
      refine E.callB B.isinstance bt_isinstance ?_
      refine A.cons ?_
      refine E.var 3 rfl ?_
      refine A.cons ?_
      refine E.globR tX.mgE ?_
      refine A.nil ?_
      walk_at "cl"
      refine A.cons ?_
      refine E.callB B.isinstance bt_isinstance ?_
      refine A.cons ?_
      refine E.var 3 rfl ?_
      refine A.cons ?_
      refine E.bty tX.mgV bt_ValueError ?_
      refine A.nil ?_
      walk_at "cl"
      refine A.cons ?_
      refine E.callB B.isinstance bt_isinstance ?_
      refine A.cons ?_
      refine E.var 3 rfl ?_
      refine A.cons ?_
      refine E.globR tX.mgW ?_
      refine A.nil ?_
      walk_at "cl"
      refine A.nil ?_
      walk_at "disp"
      walk_at "n"
      exact W.nil ⟨_, rfl⟩
  rintro o ρ ⟨u, rfl⟩
  refine W.cons ?_
  refine W1.ret ?_
  refine E.cmp ?_
  refine E.var 2 rfl ?_
  refine E.lst ?_
  refine A.cons ?_
  refine E.bl ?_
  refine A.cons ?_
  refine E.bl ?_
  refine A.cons ?_
  refine E.bl ?_
  refine A.nil ?_
  walk_at "disp"
  refine O2.eqL (xs := [.b true, .b true, .b false]) (ys := [.b true, .b true, .b false]) (r := true) hr.units rfl rfl (by decide) (by decide) (by decide) ?_
  exact ⟨_, rfl, rfl⟩
abbrev sAro : Stmt := top 63
theorem scAro : FnScope ["number", "error", "middle", "flags", "e", "low", "high"] ["number", "error"] (defScope sAro) := ⟨rfl, rfl, rfl, by decide +kernel, rfl, by decide +kernel, by decide +kernel⟩
theorem ok_aro (F : Df K mg "_law_around" sAro ["number", "error"] f fd) (B : Bl mg) (tR : RatT K mg C) (tI : IvT K mg C CI) (tX : ErT K mg Z Y S) (GLow : KLow P w K mg base) (GPlus : KPlus P w K mg base) (GSameT : KSameT P w K mg base C CI) (MI : IOk P w K mg base CX0 C 1 [] (spI K C ["top", "bottom"] preI postI))
    (CAr : COk P w K mg base CX0 CI "around" 8 (spF K (fun ds => preAr C CI ds ∧ 0 ≤ nu (a2 ds)) fun ds r => arI C CI (a1 ds) (a2 ds) r)) (CArX : COk P w K mg base (L2.CX P w) CI "around" 8 (spX K (preAr C CI) (fun ds r => arI C CI (a1 ds) (a2 ds) r ∧ 0 ≤ nu (a2 ds)) (fun ds c => nu (a2 ds) < 0 ∧ c = .ref Z))) (CSing : KSing P w K mg base C CI) :
    FnOk P w K mg base CX0 9 f fd ["number", "error"] (spF K (fun ds => ∃ a b c e, ds = [dN a b, dN c e] ∧ OkK 215 a b ∧ OkK 215 c e) fun _ r => r = .bl true) := by
  refine ok_F F.fn scAro (fun ds ⟨_, _, _, _, e, _⟩ => by rw [e]; rfl) fun cdv Ar outer sh Hp0 xE Fr ds hr hm ⟨a, b, c, e, eq, o1, o2⟩ => ?_
  have nd := scAro.nd
  subst eq
  show W _ _ _ _ _ [some (.d (dN a b)), some (.d (dN c e)), none, none, none, none, none]
  refine W.cons ?_
  refine W1.set 2 ?_ nd
  refine E.dmake MI tR.mgR (hr.mono (by decide)) ?_
  refine A.cons ?_
  refine E.ix ?_
  refine E.var 0 rfl ?_
  refine E.int ?_
  walk_at "ix"
  refine A.cons ?_
  refine E.ix ?_
  refine E.var 0 rfl ?_
  refine E.int ?_
  walk_at "ix"
  refine A.nil ?_
  refine ⟨[.int _, .int _], rfl, ⟨_, _, rfl, Int.ne_of_gt o1.1, o1.2.1.mono (by decide), o1.2.2.mono (by decide)⟩, ?_⟩
  rintro fs ⟨p, q, rfl, hn⟩
  have hn : Nrm a b p q := hn
  have op := low_ok hn o1
  walk_at "n"
  refine W.cut (fun o r => 0 ≤ c ∧ r = [some (.d (dN a b)), some (.d (dN c e)), some (.d (rat C p q)), none, none, none, none]) ?_ ?_
  · skip
    refine W1.iff ?_
    refine T.cmp ?_
    refine E.ix ?_
    refine E.var 1 rfl ?_
    refine E.int ?_
    walk_at "ix"
    refine E.int ?_
    walk_at "o"
    refine ⟨_, rfl, ?_⟩
    refine ifd (fun hc => ?_) (fun hc => W.nil ⟨by omega, rfl⟩)
    refine W.cons ?_
    refine W1.set 3 ?_ nd
    refine E.lst ?_
    refine A.nil ?_
    walk_at "disp"
    walk_at "n"
    refine W.cut (fun o r => ∃ u v w, r = [some (.d (dN a b)), some (.d (dN c e)), some (.d (rat C p q)), some (.d (.lst [.bl true])), u, v, w]) ?_ ?_
    · refine W1.tryAs (n := "e") (i := 4) (c := .ref Z) (fun cls o r => cls = .ref Z ∧ r = [some (.d (dN a b)), some (.d (dN c e)), some (.d (rat C p q)), some (.d (.lst [])), none, none, none]) rfl rfl nd rfl rfl ⟨rfl, by decide, Or.inl tX.mgE⟩ takes0 ?_ ?_
      · intro pn xe F' e1 e2 e3 po tk
        refine W.cons ?_
        refine W1.expr ?_
        refine E.cmX tk CArX (hr.mono (by decide)) ?_
        refine E.globR tI.mgI ?_
        refine ⟨rfl, ?_⟩
        refine A.cons ?_
        refine E.var 2 rfl ?_
        refine A.cons ?_
        refine E.dmake MI tR.mgR (hr.mono (by decide)) ?_
        refine A.cons ?_
        refine E.ix ?_
        refine E.var 1 rfl ?_
        refine E.int ?_
        walk_at "ix"
        refine A.cons ?_
        refine E.ix ?_
        refine E.var 1 rfl ?_
        refine E.int ?_
        walk_at "ix"
        refine A.nil ?_
        refine ⟨[.int _, .int _], rfl, ⟨_, _, rfl, Int.ne_of_gt o2.1, o2.2.1.mono (by decide), o2.2.2.mono (by decide)⟩, ?_⟩
        rintro fs ⟨r, s, rfl, hm⟩
        have hm : Nrm c e r s := hm
        refine A.nil ?_
        have hneg : r < 0 := by
          have := sgn_of hm o2.1
          unfold sgn at this
          rw [if_pos hc] at this
          by_cases h : r < 0
          · exact h
          · rw [if_neg h] at this; split at this <;> omega
        refine ⟨[_, _], rfl, ⟨_, _, _, _, rfl, op.mono, (low_ok hm o2).mono⟩, ?_, ?_⟩
        · rintro d ⟨_, hz⟩
          have hz : 0 ≤ r := hz
          omega
        · rintro c ⟨_, rfl⟩
          exact ⟨rfl, rfl⟩
      · rintro ad oe cls pn o ρ hz hf ⟨rfl, rfl⟩
        refine ⟨tX.mEE, ?_⟩
        have x1 := tX.xE
        have x2 := tX.kES
        refine W.cons ?_
        refine W1.set 3 ?_ nd
        refine E.lst ?_
        refine A.cons ?_
        refine E.callB B.isinstance bt_isinstance ?_
        refine A.cons ?_
        refine E.var 4 rfl ?_
        refine A.cons ?_
        refine E.globR tX.mgS ?_
        refine A.nil ?_
        walk_at "cl"
        refine A.nil ?_
        walk_at "disp"
        walk_at "n"
        exact W.nil ⟨_, _, _, rfl⟩
    rintro o ρ ⟨u, v, w, rfl⟩
    refine W.cons ?_
    refine W1.ret ?_
    refine E.cmp ?_
    refine E.var 3 rfl ?_
    refine E.lst ?_
    refine A.cons ?_
    refine E.bl ?_
    refine A.nil ?_
    walk_at "disp"
    refine O2.eqL (xs := [.b true]) (ys := [.b true]) (r := true) hr.units rfl rfl (by decide) (by decide) (by decide) ?_
    exact ⟨_, rfl, rfl⟩
  rintro o ρ ⟨hc, rfl⟩
  have oN : OkK 215 (-c) e := ⟨o2.1, o2.2.1.neg, o2.2.2⟩
  refine W.cons ?_
  refine W1.set 5 ?_ nd
  refine E.dcall GLow (hr.mono (by decide)) ?_
  refine A.cons ?_
  refine E.dcall GPlus (hr.mono (by decide)) ?_
  refine A.cons ?_
  refine E.var 0 rfl ?_
  refine A.cons ?_
  refine E.tup ?_
  refine A.cons ?_
  refine E.un ?_
  refine E.ix ?_
  refine E.var 1 rfl ?_
  refine E.int ?_
  walk_at "ix"
  walk_at "u"
  refine A.cons ?_
  refine E.ix ?_
  refine E.var 1 rfl ?_
  refine E.int ?_
  walk_at "ix"
  refine A.nil ?_
  walk_at "disp"
  refine A.nil ?_
  refine ⟨[_, _], rfl, nn o1.mono oN.mono, ?_⟩
  rintro r hr1
  have hr1 := hr1 _ _ _ _ rfl
  subst hr1
  refine A.nil ?_
  refine ⟨[_], rfl, ⟨_, _, rfl, plus_ok o1 oN⟩, ?_⟩
  rintro r hr1
  obtain ⟨p1, q1, rfl, h1⟩ := hr1 _ _ rfl
  have h1 := plus_nrm o1.1 o2.1 h1
  walk_at "n"
  refine W.cons ?_
  refine W1.set 6 ?_ nd
  refine E.dcall GLow (hr.mono (by decide)) ?_
  refine A.cons ?_
  refine E.dcall GPlus (hr.mono (by decide)) ?_
  refine A.cons ?_
  refine E.var 0 rfl ?_
  refine A.cons ?_
  refine E.var 1 rfl ?_
  refine A.nil ?_
  refine ⟨[_, _], rfl, nn o1.mono o2.mono, ?_⟩
  rintro r hr1
  have hr1 := hr1 _ _ _ _ rfl
  subst hr1
  refine A.nil ?_
  refine ⟨[_], rfl, ⟨_, _, rfl, plus_ok o1 o2⟩, ?_⟩
  rintro r hr1
  obtain ⟨p2, q2, rfl, h2⟩ := hr1 _ _ rfl
  have h2 := plus_nrm o1.1 o2.1 h2
  walk_at "n"
  have b0 := Int.ne_of_gt (Int.mul_pos o1.1 o2.1)
  have ok1 : OkK 431 p1 q1 := ((AddV.num h1).ok (.num o1) (.num oN)).num'
  have ok2 : OkK 431 p2 q2 := ((AddV.num h2).ok (.num o1) (.num o2)).num'
  refine W.cons ?_
  refine W1.iff ?_
  refine T.not ?_
  refine T.truth ?_
  refine E.dcall GSameT (hr.mono (by decide)) ?_
  refine A.cons ?_
  refine E.cm CAr (hr.mono (by decide)) ?_
  refine E.globR tI.mgI ?_
  refine ⟨rfl, ?_⟩
  refine A.cons ?_
  refine E.var 2 rfl ?_
  refine A.cons ?_
  refine E.dmake MI tR.mgR (hr.mono (by decide)) ?_
  refine A.cons ?_
  refine E.ix ?_
  refine E.var 1 rfl ?_
  refine E.int ?_
  walk_at "ix"
  refine A.cons ?_
  refine E.ix ?_
  refine E.var 1 rfl ?_
  refine E.int ?_
  walk_at "ix"
  refine A.nil ?_
  refine ⟨[.int _, .int _], rfl, ⟨_, _, rfl, Int.ne_of_gt o2.1, o2.2.1.mono (by decide), o2.2.2.mono (by decide)⟩, ?_⟩
  rintro fs ⟨r, s, rfl, hm⟩
  have hm : Nrm c e r s := hm
  refine A.nil ?_
  have hpos : 0 ≤ r := by
    have := sgn_of hm o2.1
    unfold sgn at this
    rw [if_neg (show ¬ c < 0 by omega)] at this
    by_cases h : r < 0
    · rw [if_pos h] at this; split at this <;> omega
    · omega
  refine ⟨[_, _], rfl, ⟨⟨_, _, _, _, rfl, op.mono, (low_ok hm o2).mono⟩, hpos⟩, ?_⟩
  rintro _ ⟨z, z', rfl, ⟨u1, v1, rfl, k1⟩, ⟨u2, v2, rfl, k2⟩⟩
  have k1 : Nrm (p * s - r * q) (q * s) u1 v1 := k1
  have k2 : Nrm (p * s + r * q) (q * s) u2 v2 := k2
  refine A.cons ?_
  refine E.tup ?_
  refine A.cons ?_
  refine E.var 5 rfl ?_
  refine A.cons ?_
  refine E.var 6 rfl ?_
  refine A.nil ?_
  walk_at "disp"
  refine A.nil ?_
  refine ⟨[_, _], rfl, ⟨_, _, some (p1, q1), some (p2, q2), rfl, .rat ((l_sub hn hm k1).conv b0 ?_), .rat ((l_add hn hm k2).conv b0 h2.2.1.symm), .num ok1.mono, .num ok2.mono⟩, ?_⟩
  · rw [Int.sub_eq_add_neg, ← Int.neg_mul]; exact h1.2.1.symm
  rintro _ rfl
  walk_at "tr"
  refine iteF (W.nil ?_)
  refine W.cons ?_
  refine W1.ret ?_
  refine E.dcall GSameT (hr.mono (by decide)) ?_
  refine A.cons ?_
  refine E.cm CSing (hr.mono (by decide)) ?_
  refine E.globR tI.mgI ?_
  refine ⟨rfl, ?_⟩
  refine A.cons ?_
  refine E.var 2 rfl ?_
  refine A.nil ?_
  refine ⟨[_], rfl, ⟨_, rfl, .rat op.mono⟩, ?_⟩
  rintro _ rfl
  refine A.cons ?_
  refine E.tup ?_
  refine A.cons ?_
  refine E.var 0 rfl ?_
  refine A.cons ?_
  refine E.var 0 rfl ?_
  refine A.nil ?_
  walk_at "disp"
  refine A.nil ?_
  refine ⟨[_, _], rfl, ⟨_, _, some (a, b), some (a, b), rfl, .rat hn, .rat hn, .num o1.mono, .num o1.mono⟩, ?_⟩
  rintro _ rfl
  exact ⟨_, rfl, rfl⟩
end

local macro_rules | `(tactic| walk_at "cl") => `(tactic| refine Cl.isiExc (by assumption) (by assumption) (by assumption) (fun _ _ => relv_ref) (by assumption) ?_)
theorem te_zadd {C : Addr} {z v w : D} {r : En} (hz : isR C 0 1 z) (h : TE C v r) (s : SumP C z v w) : TE C w r := by
  obtain ⟨p0, q0, rfl, hz⟩ := hz
  cases h with
  | non =>
    rcases s with ⟨_, rfl⟩ | ⟨_, s2, _⟩
    · exact .non
    · cases s2
  | rat h =>
    rcases s with ⟨s1, _⟩ | ⟨_, _, p, q, rfl, hn⟩
    · cases s1
    · have g := l_add hz h hn
      rw [Int.zero_mul, Int.zero_add, Int.mul_one, Int.one_mul] at g
      exact .rat g
/-- one turn of weighted_interval against one of the law's -/
theorem step_val {C CI : Addr} {k : Nat} {a b x y f m r : D} {l1 h1 l h l2 h2 L H : En} {c e : Int} (ta : TE C a l1) (tb : TE C b h1) (oa : OkE k l1) (ob : OkE k h1) (t1 : TE C x l) (t2 : TE C y h) (o1 : OkE 200 l) (o2 : OkE 200 h) (oc : OkK 200 c e) (hf : nu f * e = c * de f) (hd : 0 < de f)
    (hm : MulIP C CI x y f m) (hr : AddIP C CI a b (lo m) (hi m) r) (s : StrV l h c e l2 h2) (a1 : AddV l1 l2 L) (a2 : AddV h1 h2 H) : ∃ z z', r = ivl CI z z' ∧ TE C z L ∧ TE C z' H ∧ OkE (k + 400 + 1) L ∧ OkE (k + 400 + 1) H := by
  obtain ⟨u, v, rfl, v1, v2⟩ := ie_mul t1 t2 o1 o2 oc hf hd hm s
  have os := s.ok o1 o2 oc (by decide)
  obtain ⟨z, z', rfl, s1, s2⟩ := hr
  exact ⟨z, z', rfl, te_add ta v1 oa os.1 s1 a1, te_add tb v2 ob os.2 s2 a2, a1.ok oa os.1, a2.ok ob os.2⟩
theorem cut01 {a b : D} : DL.cutD [a, b] none (some 1) = [a] := by
  unfold DL.cutD
  have e1 : HT.sIx [a, b].length 0 none = 0 := by simp [HT.sIx]
  have e2 : HT.sIx [a, b].length [a, b].length (some 1) = 1 := by simp [HT.sIx]
  rw [e1, e2]
  rfl
section
variable {P : Program} {w : World} {K : PySem.W.Frag} {mg : Str → Option Value} {base : Heap} {C CI Z Y S : Addr} {f : Addr} {fd : FuncData}
abbrev sWgh : Stmt := top 62
theorem scWgh : FnScope ["first", "second", "one", "two", "factor", "whole", "numbers", "told", "pair", "kinds", "e"] ["first", "second", "one", "two", "factor", "whole"] (defScope sWgh) := ⟨rfl, rfl, rfl, by decide +kernel, rfl, by decide +kernel, by decide +kernel⟩
theorem ok_wgh (F : Df K mg "_law_weighed" sWgh ["first", "second", "one", "two", "factor", "whole"] f fd) (B : Bl mg) (tR : RatT K mg C) (tX : ErT K mg Z Y S) (MI : IOk P w K mg base CX0 C 1 [] (spI K C ["top", "bottom"] preI postI)) (MI1 : IOk P w K mg base CX0 C 1 [.int 1] (spI K C ["top", "bottom"] preI postI))
    (GWei : DOk P w K mg base CX0 "weighted_interval" 10 (spF K (preW C CI D.lst) (postW C CI))) (GWeiT : DOk P w K mg base CX0 "weighted_interval" 10 (spF K (preW C CI D.tup) (postW C CI))) (GWeiX : DOk P w K mg base (L2.CX P w) "weighted_interval" 1 (spX K (fun ds => ∃ ws is : List D, ds = [.lst ws, .lst is] ∧ ws.length ≠ is.length) (fun _ _ => False) fun _ c => c = .ref Y))
    (GTot : KTot P w K mg base) (GStr : KStr P w K mg base) (GSameT : KSameT P w K mg base C CI) :
    FnOk P w K mg base CX0 11 f fd ["first", "second", "one", "two", "factor", "whole"] (spF K (fun ds => ∃ i j l h l' h' c e n, ds = [i, j, dI l h, dI l' h', dN c e, .int n] ∧ IE C CI 200 i l h ∧ IE C CI 200 j l' h' ∧ OkK 200 c e ∧ Bd 200 n) fun _ r => r = .bl true) := by
  refine ok_F F.fn scWgh (fun ds ⟨_, _, _, _, _, _, _, _, _, e, _⟩ => by rw [e]; rfl) fun cdv Ar outer sh Hp0 xE Fr ds hr hm ⟨i, j, l, h, l', h', c, e, n, eq, ei, ej, oc, on⟩ => ?_
  have nd := scWgh.nd
  subst eq
  have vi := ei.ivd
  have vj := ej.ivd
  obtain ⟨⟨x, y, rfl, t1, t2⟩, o1, o2, oi⟩ := id ei
  obtain ⟨⟨x', y', rfl, t3, t4⟩, o3, o4, oj⟩ := id ej
  have onn : OkK 200 n 1 := ⟨by decide, on, (Bd.lit (k := 1) (x := 1)).mono (by decide)⟩
  show W _ _ _ _ _ [some (.d (ivl CI x y)), some (.d (ivl CI x' y')), some (.d (dI l h)), some (.d (dI l' h')), some (.d (dN c e)), some (.d (.int n)), none, none, none, none, none]
  refine W.cons ?_
  refine W1.set 6 ?_ nd
  refine E.lst ?_
  refine A.cons ?_
  refine E.dmake MI tR.mgR (hr.mono (by decide)) ?_
  refine A.cons ?_
  refine E.ix ?_
  refine E.var 4 rfl ?_
  refine E.int ?_
  walk_at "ix"
  refine A.cons ?_
  refine E.ix ?_
  refine E.var 4 rfl ?_
  refine E.int ?_
  walk_at "ix"
  refine A.nil ?_
  refine ⟨[.int _, .int _], rfl, ⟨_, _, rfl, Int.ne_of_gt oc.1, oc.2.1.mono (by decide), oc.2.2.mono (by decide)⟩, ?_⟩
  rintro fs ⟨p, q, rfl, hn⟩
  have hn : Nrm c e p q := hn
  have op := low_ok hn oc
  refine A.cons ?_
  refine E.dmake MI1 tR.mgR (hr.mono (by decide)) ?_
  refine A.cons ?_
  refine E.var 5 rfl ?_
  refine A.nil ?_
  refine ⟨[.int _], rfl, ⟨_, _, rfl, by decide, on.mono (by decide), Bd.lit⟩, ?_⟩
  rintro fs ⟨p', q', rfl, hn'⟩
  have hn' : Nrm n 1 p' q' := hn'
  have op' := low_ok hn' onn
  refine A.nil ?_
  walk_at "disp"
  walk_at "n"
  refine W.cons ?_
  refine W1.set 7 ?_ nd
  refine E.dcall GWei (hr.mono (by decide)) ?_
  refine A.cons ?_
  refine E.var 6 rfl ?_
  refine A.cons ?_
  refine E.lst ?_
  refine A.cons ?_
  refine E.var 0 rfl ?_
  refine A.cons ?_
  refine E.var 1 rfl ?_
  refine A.nil ?_
  walk_at "disp"
  refine A.nil ?_
  refine ⟨[.lst _, .lst _], rfl, ⟨[rat C p q, rat C p' q'], [ivl CI x y, ivl CI x' y'], rfl, rfl, Nat.le_refl _, ?_, ?_⟩, ?_⟩
  · intro w hw
    rcases List.mem_cons.mp hw with z | hw
    · exact ⟨p, q, z, op⟩
    · exact ⟨p', q', List.mem_singleton.mp hw, op'⟩
  · intro w hw
    rcases List.mem_cons.mp hw with z | hw
    · rw [z]; exact vi
    · rw [List.mem_singleton.mp hw]; exact vj
  rintro told ⟨z0, hz0, wi⟩
  have wi : WI C CI [rat C p q, rat C p' q'] [ivl CI x y, ivl CI x' y'] (ivl CI z0 z0) told := wi
  walk_at "n"
  refine W.cons ?_
  refine W1.iff ?_
  refine T.not ?_
  refine T.truth ?_
  refine E.dcall GSameT (hr.mono (by decide)) ?_
  refine A.cons ?_
  refine E.var 7 rfl ?_
  refine A.cons ?_
  refine E.dcall GTot (hr.mono (by decide)) ?_
  refine A.cons ?_
  refine E.lst ?_
  refine A.cons ?_
  refine E.var 4 rfl ?_
  refine A.cons ?_
  refine E.tup ?_
  refine A.cons ?_
  refine E.var 5 rfl ?_
  refine A.cons ?_
  refine E.int ?_
  refine A.nil ?_
  walk_at "disp"
  refine A.nil ?_
  walk_at "disp"
  refine A.cons ?_
  refine E.lst ?_
  refine A.cons ?_
  refine E.var 2 rfl ?_
  refine A.cons ?_
  refine E.var 3 rfl ?_
  refine A.nil ?_
  walk_at "disp"
  refine A.nil ?_
  refine ⟨[.lst _, .lst _], rfl, ⟨[dN c e, dN n 1], [dI l h, dI l' h'], rfl, rfl, Nat.le_refl _, ?_, ?_⟩, ?_⟩
  · intro w hw
    rcases List.mem_cons.mp hw with z | hw
    · exact ⟨c, e, z, oc⟩
    · exact ⟨n, 1, List.mem_singleton.mp hw, onn⟩
  · intro w hw
    rcases List.mem_cons.mp hw with z | hw
    · exact ⟨_, _, z, o1, o2⟩
    · exact ⟨_, _, List.mem_singleton.mp hw, o3, o4⟩
  rintro _ ⟨L, H, rfl, tv⟩
  have tv : TV [dN c e, dN n 1] [dI l h, dI l' h'] L H := tv
  refine A.nil ?_
  have tz := te_zero hz0
  obtain ⟨z, z', rfl, u1, u2, u3, u4⟩ : ∃ z z', told = ivl CI z z' ∧ TE C z L ∧ TE C z' H ∧ OkE 1900 L ∧ OkE 1900 H := by
    obtain ⟨l1, h1, l2, h2, tv, s2, a1', a2'⟩ := tv_snoc (ws := [dN c e]) (is := [dI l h]) tv
    obtain ⟨l3, h3, l4, h4, tv, s1, b1, b2⟩ := tv_snoc (ws := []) (is := []) tv
    obtain ⟨rfl, rfl⟩ := tv_nil tv
    obtain ⟨u, m2, wi, hm2, ha2⟩ := wi_snoc (ws := [rat C p q]) (is := [ivl CI x y]) wi
    obtain ⟨u0, m1, wi, hm1, ha1⟩ := wi_snoc (ws := []) (is := []) wi
    have := wi_nil wi
    subst this
    obtain ⟨a, b, rfl, g1, g2, g3, g4⟩ := step_val (f := rat C p q) tz tz ok01 ok01 t1 t2 o1 o2 oc hn.2.1 hn.1 hm1 ha1 s1 b1 b2
    obtain ⟨a', b', rfl, g1', g2', g3', g4'⟩ := step_val (f := rat C p' q') g1 g2 g3 g4 t3 t4 o3 o4 onn hn'.2.1 hn'.1 hm2 ha2 s2 a1' a2'
    exact ⟨a', b', rfl, g1', g2', g3'.mono, g4'.mono⟩
  refine ⟨[_, _], rfl, ⟨_, _, _, _, rfl, u1, u2, u3, u4⟩, ?_⟩
  rintro _ rfl
  walk_at "tr"
  refine iteF (W.nil ?_)
  refine W.cons ?_
  refine W1.iff ?_
  refine T.not ?_
  refine T.truth ?_
  refine E.dcall GSameT (hr.mono (by decide)) ?_
  refine A.cons ?_
  refine E.dcall GWeiT (hr.mono (by decide)) ?_
  refine A.cons ?_
  refine E.callTy B.tuple bt_tuple ?_
  refine A.cons ?_
  refine E.slice ?_
  refine E.var 6 rfl ?_
  refine PoE.none ?_
  refine PoE.some ?_
  refine E.int ?_
  refine ⟨_, rfl, ?_⟩
  walk_at "sl"
  refine A.nil ?_
  walk_at "cl"
  refine A.cons ?_
  refine E.tup ?_
  refine A.cons ?_
  refine E.var 0 rfl ?_
  refine A.nil ?_
  walk_at "disp"
  refine A.nil ?_
  refine ⟨[.tup _, .tup _], rfl, ⟨[rat C p q], [ivl CI x y], congrArg (fun t => [D.tup t, D.tup [ivl CI x y]]) cut01, rfl, Nat.le_succ 1, ?_, ?_⟩, ?_⟩
  · intro w hw
    exact ⟨p, q, List.mem_singleton.mp hw, op⟩
  · intro w hw
    rw [List.mem_singleton.mp hw]; exact vi
  rintro told ⟨z1, hz1, wi1⟩
  have wi1 : WI C CI (DL.cutD [rat C p q, rat C p' q'] none (some 1)) [ivl CI x y] (ivl CI z1 z1) told := wi1
  rw [cut01] at wi1
  refine A.cons ?_
  refine E.dcall GStr (hr.mono (by decide)) ?_
  refine A.cons ?_
  refine E.var 2 rfl ?_
  refine A.cons ?_
  refine E.var 4 rfl ?_
  refine A.nil ?_
  refine ⟨[_, _], rfl, ⟨_, _, _, _, rfl, o1.mono, o2.mono, oc.mono (by decide)⟩, ?_⟩
  intro d hd
  obtain ⟨L1, H1, rfl, s1⟩ := hd l h c e eL_dI eH_dI rfl
  have s1 : StrV l h c e L1 H1 := s1
  refine A.nil ?_
  have os1 : OkE 400 L1 ∧ OkE 400 H1 := StrV.ok (k := 200) (j := 200) s1 o1 o2 oc (by decide)
  obtain ⟨z5, z5', rfl, v1, v2⟩ : ∃ z z', told = ivl CI z z' ∧ TE C z L1 ∧ TE C z' H1 := by
    obtain ⟨u0, m1, wi1, hm1, ha1⟩ := wi_snoc (ws := []) (is := []) wi1
    have := wi_nil wi1
    subst this
    obtain ⟨u, v, rfl, v1, v2⟩ := ie_mul (f := rat C p q) t1 t2 o1 o2 oc hn.2.1 hn.1 hm1 s1
    obtain ⟨z, z', rfl, g1, g2⟩ := ha1
    exact ⟨z, z', rfl, te_zadd hz1 v1 g1, te_zadd hz1 v2 g2⟩
  refine ⟨[_, _], rfl, ⟨_, _, _, _, rfl, v1, v2, os1.1.mono, os1.2.mono⟩, ?_⟩
  rintro _ rfl
  walk_at "tr"
  refine iteF (W.nil ?_)
  refine W.cons ?_
  refine W1.iff ?_
  refine T.not ?_
  refine T.truth ?_
  refine E.dcall GSameT (hr.mono (by decide)) ?_
  refine A.cons ?_
  refine E.dcall GWei (hr.mono (by decide)) ?_
  refine A.cons ?_
  refine E.lst ?_
  refine A.nil ?_
  walk_at "disp"
  refine A.cons ?_
  refine E.lst ?_
  refine A.nil ?_
  walk_at "disp"
  refine A.nil ?_
  refine ⟨[.lst [], .lst []], rfl, ⟨[], [], rfl, rfl, Nat.zero_le 2, fun _ h => (List.not_mem_nil h).elim, fun _ h => (List.not_mem_nil h).elim⟩, ?_⟩
  rintro told ⟨z2, hz2, wi2⟩
  have wi2 : WI C CI [] [] (ivl CI z2 z2) told := wi2
  have := wi_nil wi2
  subst this
  refine A.cons ?_
  refine E.tup ?_
  refine A.cons ?_
  refine E.tup ?_
  refine A.cons ?_
  refine E.int ?_
  refine A.cons ?_
  refine E.int ?_
  refine A.nil ?_
  walk_at "disp"
  refine A.cons ?_
  refine E.tup ?_
  refine A.cons ?_
  refine E.int ?_
  refine A.cons ?_
  refine E.int ?_
  refine A.nil ?_
  walk_at "disp"
  refine A.nil ?_
  walk_at "disp"
  refine A.nil ?_
  refine ⟨[_, dI (some (0, 1)) (some (0, 1))], rfl, ⟨_, _, _, _, rfl, te_zero hz2, te_zero hz2, ok01.mono, ok01.mono⟩, ?_⟩
  rintro _ rfl
  walk_at "tr"
  refine iteF (W.nil ?_)
  have cut0 := @cut01 (rat C p q) (rat C p' q')
  refine W.cut (fun o r => ∃ u v w, r = [some (.d (ivl CI x y)), some (.d (ivl CI x' y')), some (.d (dI l h)), some (.d (dI l' h')), some (.d (dN c e)), some (.d (.int n)), some (.d (.lst [rat C p q, rat C p' q'])), some (.d (ivl CI z z')), u, v, w]) ?_ ?_
  · refine W1.forL (fun i o r => ∃ u v w, r = [some (.d (ivl CI x y)), some (.d (ivl CI x' y')), some (.d (dI l h)), some (.d (dI l' h')), some (.d (dN c e)), some (.d (.int n)), some (.d (.lst [rat C p q, rat C p' q'])), some (.d (ivl CI z z')), u, v, w]) rfl PassesOwn.never ?_
    refine E.lst ?_
    refine A.cons ?_
    refine E.tup ?_
    refine A.cons ?_
    refine E.var 6 rfl ?_
    refine A.cons ?_
    refine E.lst ?_
    refine A.cons ?_
    refine E.var 0 rfl ?_
    refine A.nil ?_
    walk_at "disp"
    refine A.nil ?_
    walk_at "disp"
    refine A.cons ?_
    refine E.tup ?_
    refine A.cons ?_
    refine E.slice ?_
    refine E.var 6 rfl ?_
    refine PoE.none ?_
    refine PoE.some ?_
    refine E.int ?_
    refine ⟨_, rfl, ?_⟩
    walk_at "sl"
    refine A.cons ?_
    refine E.lst ?_
    refine A.cons ?_
    refine E.var 0 rfl ?_
    refine A.cons ?_
    refine E.var 1 rfl ?_
    refine A.nil ?_
    walk_at "disp"
    refine A.nil ?_
    walk_at "disp"
    refine A.cons ?_
    refine E.tup ?_
    refine A.cons ?_
    refine E.lst ?_
    refine A.nil ?_
    walk_at "disp"
    refine A.cons ?_
    refine E.lst ?_
    refine A.cons ?_
    refine E.var 1 rfl ?_
    refine A.nil ?_
    walk_at "disp"
    refine A.nil ?_
    walk_at "disp"
    refine A.nil ?_
    walk_at "disp"
    refine ⟨_, .inl rfl, ⟨_, _, _, rfl⟩, ?_, fun _ _ z => z⟩
    rintro k d o ρ hd ⟨u, v, w, rfl⟩
    obtain ⟨ws, is, rfl, hne⟩ : ∃ ws is : List D, d = .tup [.lst ws, .lst is] ∧ ws.length ≠ is.length := by
      match k, hd with
      | 0, hd => cases hd; exact ⟨_, _, rfl, by simp⟩
      | 1, hd => cases hd; exact ⟨_, _, rfl, by rw [cut0]; simp⟩
      | 2, hd => cases hd; exact ⟨_, _, rfl, by simp⟩
      | k + 3, hd => simp at hd
    refine Tg.name 8 ?_ nd
    refine W.cons ?_
    refine W1.set 9 ?_ nd
    refine E.lst ?_
    refine A.nil ?_
    walk_at "disp"
    walk_at "n"
    refine W.cut (fun o r => ∃ w, r = [some (.d (ivl CI x y)), some (.d (ivl CI x' y')), some (.d (dI l h)), some (.d (dI l' h')), some (.d (dN c e)), some (.d (.int n)), some (.d (.lst [rat C p q, rat C p' q'])), some (.d (ivl CI z z')), some (.d (.tup [.lst ws, .lst is])), some (.d (.lst [.bl true, .bl false])), w]) ?_ ?_
    · refine W1.tryAs (n := "e") (i := 10) (c := .ref S) (fun cls o r => cls = .ref Y ∧ r = [some (.d (ivl CI x y)), some (.d (ivl CI x' y')), some (.d (dI l h)), some (.d (dI l' h')), some (.d (dN c e)), some (.d (.int n)), some (.d (.lst [rat C p q, rat C p' q'])), some (.d (ivl CI z z')), some (.d (.tup [.lst ws, .lst is])), some (.d (.lst [])), w]) rfl rfl nd rfl rfl ⟨rfl, by decide, Or.inl tX.mgS⟩ takes0 ?_ ?_
      · intro pn xe F' e1 e2 e3 po tk
        refine W.cons ?_
        refine W1.expr ?_
        refine E.dcallX tk GWeiX (hr.mono (by decide)) ?_
        refine A.cons ?_
        refine E.ix ?_
        refine E.var 8 rfl ?_
        refine E.int ?_
        walk_at "ix"
        refine A.cons ?_
        refine E.ix ?_
        refine E.var 8 rfl ?_
        refine E.int ?_
        walk_at "ix"
        refine A.nil ?_
        refine ⟨[.lst _, .lst _], rfl, ⟨_, _, rfl, hne⟩, fun _ z => z.elim, ?_⟩
        rintro c rfl
        exact ⟨rfl, rfl⟩
      · rintro ad oe cls pn o ρ hz hf ⟨rfl, rfl⟩
        refine ⟨tX.mW, ?_⟩
        have x1 := tX.xW
        have x2 := tX.kWW
        have x3 := tX.kWE
        refine W.cons ?_
        refine W1.set 9 ?_ nd
        refine E.lst ?_
        refine A.cons ?_
        refine E.callB B.isinstance bt_isinstance ?_
        refine A.cons ?_
        refine E.var 10 rfl ?_
        refine A.cons ?_
        refine E.globR tX.mgW ?_
        refine A.nil ?_
        walk_at "cl"
        refine A.cons ?_
        refine E.callB B.isinstance bt_isinstance ?_
        refine A.cons ?_
        refine E.var 10 rfl ?_
        refine A.cons ?_
        refine E.globR tX.mgE ?_
        refine A.nil ?_
        walk_at "cl"
        refine A.nil ?_
        walk_at "disp"
        walk_at "n"
        exact W.nil ⟨_, rfl⟩
    rintro o ρ ⟨w, rfl⟩
    refine W.cons ?_
    refine W1.iff ?_
    refine T.cmp ?_
    refine E.var 9 rfl ?_
    refine E.lst ?_
    refine A.cons ?_
    refine E.bl ?_
    refine A.cons ?_
    refine E.bl ?_
    refine A.nil ?_
    walk_at "disp"
    refine O2.neL (xs := [.b true, .b false]) (ys := [.b true, .b false]) (r := true) hr.units rfl rfl (by decide) (by decide) (by decide) ?_
    exact ⟨_, rfl, iteF (W.nil (W.nil ⟨_, _, _, rfl⟩))⟩
  rintro o ρ ⟨u, v, w, rfl⟩
  refine W.cons ?_
  refine W1.ret ?_
  refine E.bl ?_
  exact ⟨_, rfl, rfl⟩
end

theorem lt_step {c e p q : Int} (h0 : 0 < e) (h1 : 0 < q) (h : p * (e * 1000) = (c * 1000 + 1 * e) * q) : c * q < p * e := by
  have r := Int.mul_pos h0 h1
  have g1 : p * (e * 1000) = p * e * 1000 := by grind
  have g2 : (c * 1000 + 1 * e) * q = c * q * 1000 + e * q := by grind
  omega
theorem nbb {A B : Prop} {b : Bool} (h : B) : if (!(b == b)) = true then A else B := by cases b <;> exact h
theorem sameE_self : ∀ l : En, sameE l l = true
  | none => rfl
  | some (_, _) => decide_eq_true rfl
section
variable {P : Program} {w : World} {K : PySem.W.Frag} {mg : Str → Option Value} {base : Heap} {C CI Z Y S : Addr} {f : Addr} {fd : FuncData}
structure LawI (P : Program) (w : World) (K : PySem.W.Frag) (mg : Str → Option Value) (base : Heap) (C CI : Addr) : Prop where
  GPool : DOk P w K mg base CX0 "_law_pool" 1 (spN K preP fun _ => PoolI)
  GTake : KTake P w K mg base
  GFar : DOk P w K mg base CX0 "_law_far_end" 3 (spP K PoolI preNil postFar)
  GOrd : DOk P w K mg base CX0 "_law_ordered" 2 (spF K (fun ds => ∃ l h, ds = [dE l, dE h] ∧ OkE 1900 l ∧ OkE 1900 h) postOrd)
  GSec : DOk P w K mg base CX0 "_law_second" 4 (spP K PoolI preSec postSec)
  GBes : DOk P w K mg base CX0 "_law_beside" 3 (spP K PoolI preBes postBes)
  GFac : DOk P w K mg base CX0 "_law_factor" 3 (spP K PoolI preNil fun _ d => ∃ a b, d = dN a b ∧ OkK 190 a b)
  GLow : KLow P w K mg base
  GPlus : KPlus P w K mg base
  GIvl : DOk P w K mg base CX0 "_law_interval" 8 (spF K (fun ds => ∃ l h, ds = [dI l h] ∧ OkE 1900 l ∧ OkE 1900 h ∧ lessE h l = false) fun ds r => ∀ l h, eL (a0 ds) = l → eH (a0 ds) = h → ∃ x y, r = ivl CI x y ∧ TE C x l ∧ TE C y h)
  GSameT : KSameT P w K mg base C CI
  GSameS : DOk P w K mg base CX0 "_law_same_ends" 3 (spF K (fun ds => ∃ l h l' h', ds = [dI l h, dI l' h'] ∧ OkE 1900 l ∧ OkE 1900 h ∧ OkE 1900 l' ∧ OkE 1900 h') fun ds r => r = .bl (sameE (eL (a0 ds)) (eL (a1 ds)) && sameE (eH (a0 ds)) (eH (a1 ds))))
  GMet : DOk P w K mg base CX0 "_law_met" 9 (spF K (fun ds => ∃ i j l h l' h', ds = [i, j, dI l h, dI l' h'] ∧ IE C CI 200 i l h ∧ IE C CI 200 j l' h') fun _ r => r = .bl true)
  GAsk : DOk P w K mg base CX0 "_law_asked" 9 (spF K (fun ds => ∃ i l h c e, ds = [i, dI l h, dN c e] ∧ IE C CI 200 i l h ∧ OkK 215 c e) fun _ r => r = .bl true)
  GSums : DOk P w K mg base CX0 "_law_sums" 10 (spF K (fun ds => ∃ i j l h l' h' c e n, ds = [i, j, dI l h, dI l' h', dN c e, .int n] ∧ IE C CI 200 i l h ∧ IE C CI 200 j l' h' ∧ OkK 200 c e ∧ Bd 200 n) fun _ r => r = .bl true)
  GWgh : DOk P w K mg base CX0 "_law_weighed" 11 (spF K (fun ds => ∃ i j l h l' h' c e n, ds = [i, j, dI l h, dI l' h', dN c e, .int n] ∧ IE C CI 200 i l h ∧ IE C CI 200 j l' h' ∧ OkK 200 c e ∧ Bd 200 n) fun _ r => r = .bl true)
  GAro : DOk P w K mg base CX0 "_law_around" 9 (spF K (fun ds => ∃ a b c e, ds = [dN a b, dN c e] ∧ OkK 215 a b ∧ OkK 215 c e) fun _ r => r = .bl true)
  GEmp : DOk P w K mg base CX0 "_law_empty" 8 (spF K (fun ds => ∃ a b c e, ds = [dN a b, dN c e] ∧ OkK 1900 a b ∧ OkK 1900 c e ∧ c * b < a * e) fun _ r => r = .bl true)
  MIEq : MOk P w K mg base CX0 CI "__eq__" 2 (spF K (preII C CI 1900) postIEq)
  CEv : COk P w K mg base CX0 CI "everything" 8 (spF K (fun ds => ds = [.ref CI]) fun ds r => r = ivl CI .non .non)
abbrev sLaw : Stmt := top 64
theorem scLaw : FnScope ["script", "pool", "one", "two", "number", "factor", "whole", "error", "first", "second", "other"] ["script"] (defScope sLaw) := ⟨rfl, rfl, rfl, by decide +kernel, rfl, by decide +kernel, by decide +kernel⟩
theorem ok_law (F : Df K mg "law" sLaw ["script"] f fd) (B : Bl mg) (tR : RatT K mg C) (tI : IvT K mg C CI) (MI : IOk P w K mg base CX0 C 1 [] (spI K C ["top", "bottom"] preI postI)) (MV : IOk P w K mg base CX0 CI 6 [] (spI K CI ["low", "high"] (preV C) postV)) (LH : LawI P w K mg base C CI) : FnOk P w K mg base CX0 12 f fd ["script"] (spF K preP fun _ r => r = .bl true) := by
  obtain ⟨GPool, GTake, GFar, GOrd, GSec, GBes, GFac, GLow, GPlus, GIvl, GSameT, GSameS, GMet, GAsk, GSums, GWgh, GAro, GEmp, MIEq, CEv⟩ := LH
  refine ok_F F.fn scLaw (fun ds h => by obtain ⟨_, e, _⟩ := h; rw [e]; rfl) fun cdv Ar outer sh Hp0 xE Fr ds hr hm ⟨ns, eq, hz⟩ => ?_
  have nd := scLaw.nd
  subst eq
  show W _ _ _ _ _ [some (.d (.rol (ns.map D.int))), none, none, none, none, none, none, none, none, none, none]
  refine W.cons ?_
  refine W1.set 1 ?_ nd
  refine E.dcallN GPool (hr.mono (by decide)) ?_
  refine A.cons ?_
  refine E.var 0 rfl ?_
  refine A.nil ?_
  refine ⟨[_], rfl, ⟨ns, rfl, hz⟩, ?_⟩
  walk_at "n"
  refine W.cons ?_
  refine W1.set 2 ?_ nd
  refine E.dcall GOrd (hr.mono (by decide)) ?_
  refine A.cons ?_
  refine E.dcallP GFar (hr.mono (by decide)) ?_
  refine A.cons ?_
  refine E.var 1 rfl ?_
  refine A.nil ?_
  refine ⟨0, [], rfl, rfl, rfl, ?_⟩
  rintro _ ⟨e1, rfl, of1⟩
  refine A.cons ?_
  refine E.dcallP GFar (hr.mono (by decide)) ?_
  refine A.cons ?_
  refine E.var 1 rfl ?_
  refine A.nil ?_
  refine ⟨0, [], rfl, rfl, rfl, ?_⟩
  rintro _ ⟨e2, rfl, of2⟩
  refine A.nil ?_
  refine ⟨[_, _], rfl, ⟨_, _, rfl, of1.mono, of2.mono⟩, ?_⟩
  rintro _ ⟨l, h, rfl, less1, h12⟩
  have h12 : (l = eD (dE e1) ∧ h = eD (dE e2)) ∨ (l = eD (dE e2) ∧ h = eD (dE e1)) := h12
  rw [eD_dE, eD_dE] at h12
  obtain ⟨o1, o2⟩ : OkE 190 l ∧ OkE 190 h := by
    rcases h12 with ⟨rfl, rfl⟩ | ⟨rfl, rfl⟩
    · exact ⟨of1, of2⟩
    · exact ⟨of2, of1⟩
  have p1 : OkE 200 l := o1.mono
  have p2 : OkE 200 h := o2.mono
  walk_at "n"
  refine W.cons ?_
  refine W1.set 3 ?_ nd
  refine E.dcallP GSec (hr.mono (by decide)) ?_
  refine A.cons ?_
  refine E.var 1 rfl ?_
  refine A.cons ?_
  refine E.var 2 rfl ?_
  refine A.nil ?_
  refine ⟨0, [_], rfl, rfl, ⟨_, _, rfl, o1, o2⟩, ?_⟩
  rintro _ ⟨l', h', rfl, p3, p4, less2⟩
  walk_at "n"
  refine W.cons ?_
  refine W1.set 4 ?_ nd
  refine E.dcallP GBes (hr.mono (by decide)) ?_
  refine A.cons ?_
  refine E.var 1 rfl ?_
  refine A.cons ?_
  refine E.var 2 rfl ?_
  refine A.nil ?_
  refine ⟨0, [_], rfl, rfl, ⟨_, _, rfl, p1, p2⟩, ?_⟩
  rintro _ ⟨c, e, rfl, ob⟩
  walk_at "n"
  refine W.cons ?_
  refine W1.set 5 ?_ nd
  refine E.dcallP GFac (hr.mono (by decide)) ?_
  refine A.cons ?_
  refine E.var 1 rfl ?_
  refine A.nil ?_
  refine ⟨0, [], rfl, rfl, rfl, ?_⟩
  rintro _ ⟨a, b, rfl, ofa⟩
  walk_at "n"
  refine W.cons ?_
  refine W1.set 6 ?_ nd
  refine E.bin ?_
  refine E.dcallP GTake (hr.mono (by decide)) ?_
  refine A.cons ?_
  refine E.var 1 rfl ?_
  refine A.cons ?_
  refine E.int ?_
  refine A.nil ?_
  refine ⟨0, [.int 7], rfl, rfl, ⟨7, rfl, by decide⟩, ?_⟩
  rintro _ ⟨m, n, em, rfl, n0, n1, _⟩
  cases em
  have n1 := n1 (by decide)
  refine E.int ?_
  walk_at "o"
  walk_at "n"
  refine W.cons ?_
  refine W1.set 7 ?_ nd
  refine E.dcall GLow (hr.mono (by decide)) ?_
  refine A.cons ?_
  refine E.tup ?_
  refine A.cons ?_
  refine E.bin ?_
  refine E.dcallP GTake (hr.mono (by decide)) ?_
  refine A.cons ?_
  refine E.var 1 rfl ?_
  refine A.cons ?_
  refine E.int ?_
  refine A.nil ?_
  refine ⟨0, [.int 5], rfl, rfl, ⟨5, rfl, by decide⟩, ?_⟩
  rintro _ ⟨m, u, em, rfl, u0, u1, _⟩
  cases em
  have u1 := u1 (by decide)
  refine E.int ?_
  walk_at "o"
  refine A.cons ?_
  refine E.bin ?_
  refine E.int ?_
  refine E.dcallP GTake (hr.mono (by decide)) ?_
  refine A.cons ?_
  refine E.var 1 rfl ?_
  refine A.cons ?_
  refine E.int ?_
  refine A.nil ?_
  refine ⟨0, [.int 3], rfl, rfl, ⟨3, rfl, by decide⟩, ?_⟩
  rintro _ ⟨m, v, em, rfl, v0, v1, _⟩
  cases em
  have v1 := v1 (by decide)
  walk_at "o"
  refine A.nil ?_
  walk_at "disp"
  refine A.nil ?_
  have small : ∀ x : Int, -100 < x → x < 100 → Bd 200 x := fun x g1 g2 => Bd.mono (a := 7) (show x.natAbs < 2 ^ 7 by omega) (by decide)
  have ouv : OkK 200 (u - 2) (1 + v) := ⟨by omega, small _ (by omega) (by omega), small _ (by omega) (by omega)⟩
  have onn : Bd 200 (n - 3) := small _ (by omega) (by omega)
  generalize n - 3 = wh at onn
  refine ⟨[_], rfl, ⟨_, _, rfl, ouv.mono (by decide)⟩, ?_⟩
  rintro r hr1
  obtain ⟨ea, eb, rfl, her⟩ := hr1 _ _ rfl
  have oer := low_ok her ouv
  walk_at "n"
  refine W.cons ?_
  refine W1.set 8 ?_ nd
  refine E.dcall GIvl (hr.mono (by decide)) ?_
  refine A.cons ?_
  refine E.var 2 rfl ?_
  refine A.nil ?_
  refine ⟨[_], rfl, ⟨l, h, rfl, p1.mono, p2.mono, less1⟩, ?_⟩
  rintro r hr1
  obtain ⟨x, y, rfl, t1, t2⟩ := hr1 l h eL_dI eH_dI
  walk_at "n"
  refine W.cons ?_
  refine W1.set 9 ?_ nd
  refine E.dcall GIvl (hr.mono (by decide)) ?_
  refine A.cons ?_
  refine E.var 3 rfl ?_
  refine A.nil ?_
  refine ⟨[_], rfl, ⟨l', h', rfl, p3.mono, p4.mono, less2⟩, ?_⟩
  rintro r hr1
  obtain ⟨x', y', rfl, t3, t4⟩ := hr1 l' h' eL_dI eH_dI
  have i1 : IE C CI 200 (ivl CI x y) l h := ⟨⟨x, y, rfl, t1, t2⟩, p1, p2, less1⟩
  have i2 : IE C CI 200 (ivl CI x' y') l' h' := ⟨⟨x', y', rfl, t3, t4⟩, p3, p4, less2⟩
  walk_at "n"
  refine W.cons ?_
  refine W1.iff ?_
  refine Tw.t ?_
  refine Tw.or ?_
  refine T.not ?_
  refine T.truth ?_
  refine E.dcall GSameT (hr.mono (by decide)) ?_
  refine A.cons ?_
  refine E.var 8 rfl ?_
  refine A.cons ?_
  refine E.var 2 rfl ?_
  refine A.nil ?_
  refine ⟨[_, _], rfl, ⟨_, _, _, _, rfl, t1, t2, p1.mono, p2.mono⟩, ?_⟩
  rintro _ rfl
  walk_at "tr"
  refine iteF ?_
  refine Tw.or1 ?_
  refine T.not ?_
  refine T.truth ?_
  refine E.dcall GSameT (hr.mono (by decide)) ?_
  refine A.cons ?_
  refine E.var 9 rfl ?_
  refine A.cons ?_
  refine E.var 3 rfl ?_
  refine A.nil ?_
  refine ⟨[_, _], rfl, ⟨_, _, _, _, rfl, t3, t4, p3.mono, p4.mono⟩, ?_⟩
  rintro _ rfl
  walk_at "tr"
  refine iteF (W.nil ?_)
  refine W.cons ?_
  refine W1.iff ?_
  refine Tw.t ?_
  refine Tw.or ?_
  refine T.cmp ?_
  refine E.cmp ?_
  refine E.var 8 rfl ?_
  refine E.var 9 rfl ?_
  refine O2.dEq MIEq (hr.mono (by decide)) tI.nfI ⟨_, _, rfl, i1.ivd.mono, i2.ivd.mono⟩ fun d hd => ?_
  have hd : d = .bl (eqE x x' && eqE y y') := hd
  rw [t1.eqE t3 p1 p3, t2.eqE t4 p2 p4] at hd
  subst hd
  refine E.dcall GSameS (hr.mono (by decide)) ?_
  refine A.cons ?_
  refine E.var 2 rfl ?_
  refine A.cons ?_
  refine E.var 3 rfl ?_
  refine A.nil ?_
  refine ⟨[_, _], rfl, ⟨_, _, _, _, rfl, p1.mono, p2.mono, p3.mono, p4.mono⟩, ?_⟩
  intro d hd
  have hd : d = .bl (sameE (eL (dI l h)) (eL (dI l' h')) && sameE (eH (dI l h)) (eH (dI l' h'))) := hd
  rw [eL_dI, eL_dI, eH_dI, eH_dI] at hd
  subst hd
  walk_at "o"
  refine ⟨_, rfl, ?_⟩
  refine nbb ?_
  refine Tw.or1 ?_
  refine T.not ?_
  refine T.cmp ?_
  refine E.var 8 rfl ?_
  refine E.dcall GIvl (hr.mono (by decide)) ?_
  refine A.cons ?_
  refine E.var 2 rfl ?_
  refine A.nil ?_
  refine ⟨[_], rfl, ⟨l, h, rfl, p1.mono, p2.mono, less1⟩, ?_⟩
  rintro r hr1
  obtain ⟨x2, y2, rfl, t5, t6⟩ := hr1 l h eL_dI eH_dI
  have i3 : IE C CI 200 (ivl CI x2 y2) l h := ⟨⟨x2, y2, rfl, t5, t6⟩, p1, p2, less1⟩
  skip
  refine O2.dEq MIEq (hr.mono (by decide)) tI.nfI ⟨_, _, rfl, i1.ivd.mono, i3.ivd.mono⟩ fun d hd => ?_
  have hd : d = .bl (eqE x x2 && eqE y y2) := hd
  rw [t1.eqE t5 p1 p1, t2.eqE t6 p2 p2, sameE_self, sameE_self] at hd
  subst hd
  refine ⟨_, rfl, ?_⟩
  refine iteF (W.nil ?_)
  refine W.cut (fun o r => ∃ u, r = [some (.d (.rol (ns.map D.int))), some (.c 0), some (.d (dI l h)), some (.d (dI l' h')), some (.d (dN c e)), some (.d (dN a b)), some (.d (.int wh)), some (.d (dN ea eb)), some (.d (ivl CI x y)), some (.d (ivl CI x' y')), u]) ?_ ?_
  · refine W1.forL (fun i o r => ∃ u, r = [some (.d (.rol (ns.map D.int))), some (.c 0), some (.d (dI l h)), some (.d (dI l' h')), some (.d (dN c e)), some (.d (dN a b)), some (.d (.int wh)), some (.d (dN ea eb)), some (.d (ivl CI x y)), some (.d (ivl CI x' y')), u]) rfl PassesOwn.never ?_
    refine E.lst ?_
    refine A.cons ?_
    refine E.tup ?_
    refine A.cons ?_
    refine E.ix ?_
    refine E.var 2 rfl ?_
    refine E.int ?_
    walk_at "ix"
    refine A.cons ?_
    refine E.non ?_
    refine A.nil ?_
    walk_at "disp"
    refine A.cons ?_
    refine E.tup ?_
    refine A.cons ?_
    refine E.non ?_
    refine A.cons ?_
    refine E.ix ?_
    refine E.var 2 rfl ?_
    refine E.int ?_
    walk_at "ix"
    refine A.nil ?_
    walk_at "disp"
    refine A.nil ?_
    walk_at "disp"
    refine ⟨_, .inl rfl, ⟨_, rfl⟩, ?_, fun _ _ z => z⟩
    rintro k d o ρ hd ⟨u, rfl⟩
    obtain ⟨l2, h2, rfl, g1, g2, g3⟩ : ∃ l2 h2, d = dI l2 h2 ∧ OkE 200 l2 ∧ OkE 200 h2 ∧ lessE h2 l2 = false := by
      match k, hd with
      | 0, hd => cases hd; exact ⟨l, none, rfl, p1, .non, rfl⟩
      | 1, hd => cases hd; exact ⟨none, h, rfl, .non, p2, lessE_nr⟩
      | k + 2, hd => simp at hd
    refine Tg.name 10 ?_ nd
    refine W.cons ?_
    refine W1.iff ?_
    refine T.cmp ?_
    refine E.cmp ?_
    refine E.var 8 rfl ?_
    refine E.dcall GIvl (hr.mono (by decide)) ?_
    refine A.cons ?_
    refine E.var 10 rfl ?_
    refine A.nil ?_
    refine ⟨[_], rfl, ⟨l2, h2, rfl, g1.mono, g2.mono, g3⟩, ?_⟩
    rintro r hr1
    obtain ⟨x3, y3, rfl, t7, t8⟩ := hr1 l2 h2 eL_dI eH_dI
    have i4 : IE C CI 200 (ivl CI x3 y3) l2 h2 := ⟨⟨x3, y3, rfl, t7, t8⟩, g1, g2, g3⟩
    skip
    refine O2.dEq MIEq (hr.mono (by decide)) tI.nfI ⟨_, _, rfl, i1.ivd.mono, i4.ivd.mono⟩ fun d hd => ?_
    have hd : d = .bl (eqE x x3 && eqE y y3) := hd
    rw [t1.eqE t7 p1 g1, t2.eqE t8 p2 g2] at hd
    subst hd
    refine E.dcall GSameS (hr.mono (by decide)) ?_
    refine A.cons ?_
    refine E.var 2 rfl ?_
    refine A.cons ?_
    refine E.var 10 rfl ?_
    refine A.nil ?_
    refine ⟨[_, _], rfl, ⟨_, _, _, _, rfl, p1.mono, p2.mono, g1.mono, g2.mono⟩, ?_⟩
    intro d hd
    have hd : d = .bl (sameE (eL (dI l h)) (eL (dI l2 h2)) && sameE (eH (dI l h)) (eH (dI l2 h2))) := hd
    rw [eL_dI, eL_dI, eH_dI, eH_dI] at hd
    subst hd
    walk_at "o"
    refine ⟨_, rfl, ?_⟩
    exact nbb (W.nil (W.nil ⟨_, rfl⟩))
  rintro o ρ ⟨u, rfl⟩
  refine W.cons ?_
  refine W1.iff ?_
  refine Tw.t ?_
  refine Tw.or ?_
  refine T.not ?_
  refine T.truth ?_
  refine E.dcall GSameT (hr.mono (by decide)) ?_
  refine A.cons ?_
  refine E.cm0 CEv (hr.mono (by decide)) ?_
  refine E.globR tI.mgI ?_
  skip
  refine ⟨rfl, rfl, ?_⟩
  rintro _ rfl
  refine A.cons ?_
  refine E.tup ?_
  refine A.cons ?_
  refine E.non ?_
  refine A.cons ?_
  refine E.non ?_
  refine A.nil ?_
  walk_at "disp"
  refine A.nil ?_
  refine ⟨[ivl CI .non .non, dI none none], rfl, ⟨_, _, _, _, rfl, .non, .non, .non, .non⟩, ?_⟩
  rintro _ rfl
  walk_at "tr"
  refine iteF ?_
  refine Tw.or1 ?_
  refine T.not ?_
  refine T.truth ?_
  refine E.dcall GMet (hr.mono (by decide)) ?_
  refine A.cons ?_
  refine E.var 8 rfl ?_
  refine A.cons ?_
  refine E.var 9 rfl ?_
  refine A.cons ?_
  refine E.var 2 rfl ?_
  refine A.cons ?_
  refine E.var 3 rfl ?_
  refine A.nil ?_
  refine ⟨[_, _, _, _], rfl, ⟨_, _, _, _, _, _, rfl, i1, i2⟩, ?_⟩
  rintro _ rfl
  walk_at "tr"
  refine iteF (W.nil ?_)
  refine W.cons ?_
  refine W1.iff ?_
  refine Tw.t ?_
  refine Tw.or ?_
  refine T.not ?_
  refine T.truth ?_
  refine E.dcall GAsk (hr.mono (by decide)) ?_
  refine A.cons ?_
  refine E.var 8 rfl ?_
  refine A.cons ?_
  refine E.var 2 rfl ?_
  refine A.cons ?_
  refine E.var 4 rfl ?_
  refine A.nil ?_
  refine ⟨[_, _, _], rfl, ⟨_, _, _, _, _, rfl, i1, ob⟩, ?_⟩
  rintro _ rfl
  walk_at "tr"
  refine iteF ?_
  refine Tw.or1 ?_
  refine T.not ?_
  refine T.truth ?_
  refine E.dcall GAsk (hr.mono (by decide)) ?_
  refine A.cons ?_
  refine E.var 9 rfl ?_
  refine A.cons ?_
  refine E.var 3 rfl ?_
  refine A.cons ?_
  refine E.var 4 rfl ?_
  refine A.nil ?_
  refine ⟨[_, _, _], rfl, ⟨_, _, _, _, _, rfl, i2, ob⟩, ?_⟩
  rintro _ rfl
  walk_at "tr"
  refine iteF (W.nil ?_)
  refine W.cons ?_
  refine W1.iff ?_
  refine T.not ?_
  refine T.truth ?_
  refine E.dcall GSums (hr.mono (by decide)) ?_
  refine A.cons ?_
  refine E.var 8 rfl ?_
  refine A.cons ?_
  refine E.var 9 rfl ?_
  refine A.cons ?_
  refine E.var 2 rfl ?_
  refine A.cons ?_
  refine E.var 3 rfl ?_
  refine A.cons ?_
  refine E.var 5 rfl ?_
  refine A.cons ?_
  refine E.var 6 rfl ?_
  refine A.nil ?_
  refine ⟨[_, _, _, _, _, _], rfl, ⟨_, _, _, _, _, _, _, _, _, rfl, i1, i2, ofa.mono (by decide), onn⟩, ?_⟩
  rintro _ rfl
  walk_at "tr"
  refine iteF (W.nil ?_)
  refine W.cons ?_
  refine W1.iff ?_
  refine Tw.t ?_
  refine Tw.or ?_
  refine T.not ?_
  refine T.truth ?_
  refine E.dcall GWgh (hr.mono (by decide)) ?_
  refine A.cons ?_
  refine E.var 8 rfl ?_
  refine A.cons ?_
  refine E.var 9 rfl ?_
  refine A.cons ?_
  refine E.var 2 rfl ?_
  refine A.cons ?_
  refine E.var 3 rfl ?_
  refine A.cons ?_
  refine E.var 5 rfl ?_
  refine A.cons ?_
  refine E.var 6 rfl ?_
  refine A.nil ?_
  refine ⟨[_, _, _, _, _, _], rfl, ⟨_, _, _, _, _, _, _, _, _, rfl, i1, i2, ofa.mono (by decide), onn⟩, ?_⟩
  rintro _ rfl
  walk_at "tr"
  refine iteF ?_
  refine Tw.or1 ?_
  refine T.not ?_
  refine T.truth ?_
  refine E.dcall GAro (hr.mono (by decide)) ?_
  refine A.cons ?_
  refine E.var 4 rfl ?_
  refine A.cons ?_
  refine E.var 7 rfl ?_
  refine A.nil ?_
  refine ⟨[_, _], rfl, ⟨_, _, _, _, rfl, ob, oer.mono (by decide)⟩, ?_⟩
  rintro _ rfl
  walk_at "tr"
  refine iteF (W.nil ?_)
  refine W.cons ?_
  refine W1.iff ?_
  refine Tw.t ?_
  refine Tw.or ?_
  refine T.not ?_
  refine T.truth ?_
  refine E.dcall GEmp (hr.mono (by decide)) ?_
  refine A.cons ?_
  refine E.dcall GLow (hr.mono (by decide)) ?_
  refine A.cons ?_
  refine E.dcall GPlus (hr.mono (by decide)) ?_
  refine A.cons ?_
  refine E.var 4 rfl ?_
  refine A.cons ?_
  refine E.tup ?_
  refine A.cons ?_
  refine E.int ?_
  refine A.cons ?_
  refine E.int ?_
  refine A.nil ?_
  walk_at "disp"
  refine A.nil ?_
  have ot : OkK 215 1 1000 := ⟨by decide, Bd.lit (k := 10) |>.mono (by decide), Bd.lit (k := 10) |>.mono (by decide)⟩
  refine ⟨[_, _], rfl, ⟨_, _, _, _, rfl, ob.mono (by decide), ot.mono (by decide)⟩, ?_⟩
  rintro r hr1
  have hr1 := hr1 _ _ _ _ rfl
  subst hr1
  refine A.nil ?_
  refine ⟨[_], rfl, ⟨_, _, rfl, plus_ok ob ot⟩, ?_⟩
  rintro r hr1
  obtain ⟨p9, q9, rfl, h3⟩ := hr1 _ _ rfl
  have h3 := plus_nrm ob.1 ot.1 h3
  refine A.cons ?_
  refine E.var 4 rfl ?_
  refine A.nil ?_
  have ok3 : OkK 431 p9 q9 := ((AddV.num h3).ok (.num ob) (.num ot)).num'
  refine ⟨[_, _], rfl, ⟨_, _, _, _, rfl, ok3.mono (by decide), ob.mono (by decide), lt_step ob.1 h3.1 h3.2.1⟩, ?_⟩
  rintro _ rfl
  walk_at "tr"
  refine iteF ?_
  refine Tw.or1 ?_
  refine T.not ?_
  refine T.truth ?_
  refine E.dcall GEmp (hr.mono (by decide)) ?_
  refine A.cons ?_
  refine E.tup ?_
  refine A.cons ?_
  refine E.bin ?_
  refine E.int ?_
  refine E.int ?_
  walk_at "o"
  refine A.cons ?_
  refine E.int ?_
  refine A.nil ?_
  walk_at "disp"
  refine A.cons ?_
  refine E.tup ?_
  refine A.cons ?_
  refine E.bin ?_
  refine E.bin ?_
  refine E.int ?_
  refine E.int ?_
  walk_at "o"
  refine E.int ?_
  walk_at "o"
  refine A.cons ?_
  refine E.int ?_
  refine A.nil ?_
  walk_at "disp"
  refine A.nil ?_
  have big : Bd 1900 ((10 : Int) ^ Int.toNat 57) ∧ Bd 1900 ((10 : Int) ^ Int.toNat 57 - 1) := by
    have e57 : Int.toNat 57 = 57 := rfl
    rw [e57]
    exact ⟨Bd.mono (a := 200) (show ((10 : Int) ^ 57).natAbs < 2 ^ 200 by decide +kernel) (by decide), Bd.mono (a := 200) (show ((10 : Int) ^ 57 - 1).natAbs < 2 ^ 200 by decide +kernel) (by decide)⟩
  generalize (10 : Int) ^ Int.toNat 57 = hu at big
  refine ⟨[_, _], rfl, ⟨_, _, _, _, rfl, ⟨by decide, big.1, Bd.lit (k := 10) |>.mono (by decide)⟩, ⟨by decide, big.2, Bd.lit (k := 10) |>.mono (by decide)⟩, by omega⟩, ?_⟩
  rintro _ rfl
  walk_at "tr"
  refine iteF (W.nil ?_)
  refine W.cons ?_
  refine W1.iff ?_
  refine T.not ?_
  refine T.truth ?_
  refine E.dcall GSameT (hr.mono (by decide)) ?_
  refine A.cons ?_
  refine E.dmake MV tI.mgI (hr.mono (by decide)) ?_
  refine A.cons ?_
  refine E.dmake MI tR.mgR (hr.mono (by decide)) ?_
  refine A.cons ?_
  refine E.ix ?_
  refine E.var 4 rfl ?_
  refine E.int ?_
  walk_at "ix"
  refine A.cons ?_
  refine E.ix ?_
  refine E.var 4 rfl ?_
  refine E.int ?_
  walk_at "ix"
  refine A.nil ?_
  refine ⟨[.int _, .int _], rfl, ⟨_, _, rfl, Int.ne_of_gt ob.1, ob.2.1.mono (by decide), ob.2.2.mono (by decide)⟩, ?_⟩
  rintro fs ⟨r, s, rfl, hm1⟩
  have hm1 : Nrm c e r s := hm1
  refine A.cons ?_
  refine E.dmake MI tR.mgR (hr.mono (by decide)) ?_
  refine A.cons ?_
  refine E.ix ?_
  refine E.var 4 rfl ?_
  refine E.int ?_
  walk_at "ix"
  refine A.cons ?_
  refine E.ix ?_
  refine E.var 4 rfl ?_
  refine E.int ?_
  walk_at "ix"
  refine A.nil ?_
  refine ⟨[.int _, .int _], rfl, ⟨_, _, rfl, Int.ne_of_gt ob.1, ob.2.1.mono (by decide), ob.2.2.mono (by decide)⟩, ?_⟩
  rintro fs ⟨r', s', rfl, hm2⟩
  have hm2 : Nrm c e r' s' := hm2
  refine A.nil ?_
  have v1 : TE C (rat C r s) (some (c, e)) := .rat hm1
  have v2 : TE C (rat C r' s') (some (c, e)) := .rat hm2
  have ow : OkE 1900 (some (c, e)) := .num (ob.mono (by decide))
  have lss : lessE (some (c, e)) (some (c, e)) = false := decide_eq_false (Int.lt_irrefl _)
  refine ⟨[_, _], rfl, ⟨_, _, rfl, v1.endD ow, v2.endD ow, by rw [v1.bey v2 ow ow]; exact lss⟩, ?_⟩
  rintro fs rfl
  refine A.cons ?_
  refine E.tup ?_
  refine A.cons ?_
  refine E.var 4 rfl ?_
  refine A.cons ?_
  refine E.var 4 rfl ?_
  refine A.nil ?_
  walk_at "disp"
  refine A.nil ?_
  refine ⟨[ivl CI (rat C r s) (rat C r' s'), dI (some (c, e)) (some (c, e))], rfl, ⟨_, _, _, _, rfl, v1, v2, ow, ow⟩, ?_⟩
  rintro _ rfl
  walk_at "tr"
  refine iteF (W.nil ?_)
  refine W.cons ?_
  refine W1.ret ?_
  refine E.and ?_
  refine E.dcall GSameT (hr.mono (by decide)) ?_
  refine A.cons ?_
  refine E.var 8 rfl ?_
  refine A.cons ?_
  refine E.var 2 rfl ?_
  refine A.nil ?_
  refine ⟨[_, _], rfl, ⟨_, _, _, _, rfl, t1, t2, p1.mono, p2.mono⟩, ?_⟩
  rintro _ rfl
  refine ⟨_, rfl, ?_⟩
  refine iteT ?_
  refine E.one ?_
  refine E.dcall GSameT (hr.mono (by decide)) ?_
  refine A.cons ?_
  refine E.var 9 rfl ?_
  refine A.cons ?_
  refine E.var 3 rfl ?_
  refine A.nil ?_
  refine ⟨[_, _], rfl, ⟨_, _, _, _, rfl, t3, t4, p3.mono, p4.mono⟩, ?_⟩
  rintro _ rfl
  exact ⟨_, rfl, rfl⟩
end

end Toy
namespace Toy
open PySem PySem.Spec PyProof.Rows L2 DL RT
set_option maxHeartbeats 0 in
theorem all_mk {l : PySem.W.OpenLaw} {w : World} {K : PySem.W.Frag} {h : Heap} {mg : Str → Option Value} {fa C CI Z Y S TT f1 f2 f3 f4 f5 f6 f7 f8 f9 f10 f11 f12 f13 f14 f15 f16 f17 f18 f19 f20 f21 f22 f23 f24 f25 f26 f27 f28 f29 f30 f31 f32 f33 f34 f35 f36 f37 f38 f39 f40 f41 f42 f43 f44 f45 f46 f47 f48 f49 f50 f51 f52 f53 f54 f55 f56 f57 f58 f59 f60 f61 f62 f63 f64 f65 f66 f67 f68 f69 : Addr} (X : K.In h) (G : h.Ns mainGlobals mg) (hfa : mg "law" = some (.ref fa))
    {od1 an1 od2 an2 od3 an3 od4 an4 od5 an5 od6 an6 od7 an7 od8 an8 od9 an9 od10 an10 od11 an11 od12 an12 od13 an13 od14 an14 od15 an15 od16 an16 od17 an17 od18 an18 od19 an19 od20 an20 od21 an21 od22 an22 od23 an23 od24 an24 od25 an25 od26 an26 od27 an27 od28 an28 od29 an29 od30 an30 od31 an31 od32 an32 od33 an33 od34 an34 od35 an35 od36 an36 od37 an37 od38 an38 od39 an39 od40 an40 od41 an41 od42 an42 od43 an43 od44 an44 od45 an45 od46 an46 od47 an47 od48 an48 od49 an49 od50 an50 od51 an51 od52 an52 od53 an53 od54 an54 od55 an55 od56 an56 od57 an57 od58 an58 od59 an59 od60 an60 od61 an61 od62 an62 od63 an63 od64 an64 od65 an65 od66 an66 od67 an67 od68 an68 od69 an69 : Option Addr} {sl1 sl2 sl3 sl4 sl5 sl6 sl7 sl8 sl9 sl10 sl11 sl12 sl13 sl14 sl15 sl16 sl17 sl18 sl19 sl20 sl21 sl22 sl23 sl24 sl25 sl26 sl27 sl28 sl29 sl30 sl31 sl32 sl33 sl34 sl35 sl36 sl37 sl38 sl39 sl40 sl41 sl42 sl43 sl44 sl45 sl46 sl47 sl48 sl49 sl50 sl51 sl52 sl53 sl54 sl55 sl56 sl57 sl58 sl59 sl60 sl61 sl62 sl63 sl64 sl65 sl66 sl67 sl68 sl69 : Array (Option Value)} {oc1 kV1 dc1 pm1 cd1 ct1 oc2 kV2 dc2 pm2 cd2 ct2 oc3 kV3 dc3 pm3 cd3 ct3 oc4 kV4 dc4 pm4 cd4 ct4 oc5 kV5 dc5 pm5 cd5 ct5 oc6 kV6 dc6 pm6 cd6 ct6 oc7 kV7 dc7 pm7 cd7 ct7 oc8 kV8 dc8 pm8 cd8 ct8 oc9 kV9 dc9 pm9 cd9 ct9 oc10 kV10 dc10 pm10 cd10 ct10 oc11 kV11 dc11 pm11 cd11 ct11 oc12 kV12 dc12 pm12 cd12 ct12 oc13 kV13 dc13 pm13 cd13 ct13 oc14 kV14 dc14 pm14 cd14 ct14 oc15 kV15 dc15 pm15 cd15 ct15 oc16 kV16 dc16 pm16 cd16 ct16 oc17 kV17 dc17 pm17 cd17 ct17 oc18 kV18 dc18 pm18 cd18 ct18 oc19 kV19 dc19 pm19 cd19 ct19 oc20 kV20 dc20 pm20 cd20 ct20 oc21 kV21 dc21 pm21 cd21 ct21 oc22 kV22 dc22 pm22 cd22 ct22 oc23 kV23 dc23 pm23 cd23 ct23 oc24 kV24 dc24 pm24 cd24 ct24 oc25 kV25 dc25 pm25 cd25 ct25 oc26 kV26 dc26 pm26 cd26 ct26 oc27 kV27 dc27 pm27 cd27 ct27 oc28 kV28 dc28 pm28 cd28 ct28 oc29 kV29 dc29 pm29 cd29 ct29 oc30 kV30 dc30 pm30 cd30 ct30 oc31 kV31 dc31 pm31 cd31 ct31 oc32 kV32 dc32 pm32 cd32 ct32 oc33 kV33 dc33 pm33 cd33 ct33 oc34 kV34 dc34 pm34 cd34 ct34 oc35 kV35 dc35 pm35 cd35 ct35 oc36 kV36 dc36 pm36 cd36 ct36 oc37 kV37 dc37 pm37 cd37 ct37 oc38 kV38 dc38 pm38 cd38 ct38 oc39 kV39 dc39 pm39 cd39 ct39 oc40 kV40 dc40 pm40 cd40 ct40 oc41 kV41 dc41 pm41 cd41 ct41 oc42 kV42 dc42 pm42 cd42 ct42 oc43 kV43 dc43 pm43 cd43 ct43 oc44 kV44 dc44 pm44 cd44 ct44 oc45 kV45 dc45 pm45 cd45 ct45 oc46 kV46 dc46 pm46 cd46 ct46 oc47 kV47 dc47 pm47 cd47 ct47 oc48 kV48 dc48 pm48 cd48 ct48 oc49 kV49 dc49 pm49 cd49 ct49 oc50 kV50 dc50 pm50 cd50 ct50 oc51 kV51 dc51 pm51 cd51 ct51 oc52 kV52 dc52 pm52 cd52 ct52 oc53 kV53 dc53 pm53 cd53 ct53 oc54 kV54 dc54 pm54 cd54 ct54 oc55 kV55 dc55 pm55 cd55 ct55 oc56 kV56 dc56 pm56 cd56 ct56 oc57 kV57 dc57 pm57 cd57 ct57 oc58 kV58 dc58 pm58 cd58 ct58 oc59 kV59 dc59 pm59 cd59 ct59 oc60 kV60 dc60 pm60 cd60 ct60 oc61 kV61 dc61 pm61 cd61 ct61 oc62 kV62 dc62 pm62 cd62 ct62 oc63 kV63 dc63 pm63 cd63 ct63 oc64 kV64 dc64 pm64 cd64 ct64 oc65 kV65 dc65 pm65 cd65 ct65 oc66 kV66 dc66 pm66 cd66 ct66 oc67 kV67 dc67 pm67 cd67 ct67 oc68 kV68 dc68 pm68 cd68 ct68 oc69 kV69 dc69 pm69 cd69 ct69 : Value} {fo0 fo1 fo2 fo3 fo4 fo5 : Option Value} {p29 p30 p31 : Addr} {rest29 rest30 rest31 : List Value} {oT : Obj} {tk : Tok} {nT0 : Nat}
    (h60 : PySem.W.nsIn K mainGlobals "compare" = some (some (.ref f13)))
    (h64 : PySem.W.nsIn K mainGlobals "is_beyond" = some (some (.ref f14)))
    (h68 : PySem.W.nsIn K mainGlobals "larger_low" = some (some (.ref f15)))
    (h72 : PySem.W.nsIn K mainGlobals "smaller_high" = some (some (.ref f16)))
    (h76 : PySem.W.nsIn K mainGlobals "sum_of_ends" = some (some (.ref f17)))
    (h80 : PySem.W.nsIn K mainGlobals "multiple_of_end" = some (some (.ref f18)))
    (h156 : PySem.W.nsIn K mainGlobals "weighted_interval" = some (some (.ref f32)))
    (h160 : PySem.W.nsIn K mainGlobals "_law_take" = some (some (.ref f33)))
    (h164 : PySem.W.nsIn K mainGlobals "_law_pool" = some (some (.ref f34)))
    (h168 : PySem.W.nsIn K mainGlobals "_law_integer" = some (some (.ref f35)))
    (h172 : PySem.W.nsIn K mainGlobals "_law_common" = some (some (.ref f36)))
    (h176 : PySem.W.nsIn K mainGlobals "_law_less" = some (some (.ref f37)))
    (h180 : PySem.W.nsIn K mainGlobals "_law_equal" = some (some (.ref f38)))
    (h184 : PySem.W.nsIn K mainGlobals "_law_low" = some (some (.ref f39)))
    (h188 : PySem.W.nsIn K mainGlobals "_law_plus" = some (some (.ref f40)))
    (h192 : PySem.W.nsIn K mainGlobals "_law_pair" = some (some (.ref f41)))
    (h196 : PySem.W.nsIn K mainGlobals "_law_told_number" = some (some (.ref f42)))
    (h200 : PySem.W.nsIn K mainGlobals "_law_is_end" = some (some (.ref f43)))
    (h204 : PySem.W.nsIn K mainGlobals "_law_same_told" = some (some (.ref f44)))
    (h208 : PySem.W.nsIn K mainGlobals "_law_contains" = some (some (.ref f45)))
    (h212 : PySem.W.nsIn K mainGlobals "_law_flag" = some (some (.ref f46)))
    (h216 : PySem.W.nsIn K mainGlobals "_law_same_end" = some (some (.ref f47)))
    (h220 : PySem.W.nsIn K mainGlobals "_law_same_ends" = some (some (.ref f48)))
    (h224 : PySem.W.nsIn K mainGlobals "_law_by" = some (some (.ref f49)))
    (h228 : PySem.W.nsIn K mainGlobals "_law_stretched" = some (some (.ref f50)))
    (h232 : PySem.W.nsIn K mainGlobals "_law_joined" = some (some (.ref f51)))
    (h236 : PySem.W.nsIn K mainGlobals "_law_total" = some (some (.ref f52)))
    (h240 : PySem.W.nsIn K mainGlobals "_law_given_end" = some (some (.ref f53)))
    (h244 : PySem.W.nsIn K mainGlobals "_law_interval" = some (some (.ref f54)))
    (h248 : PySem.W.nsIn K mainGlobals "_law_ordered" = some (some (.ref f55)))
    (h252 : PySem.W.nsIn K mainGlobals "_law_wide_number" = some (some (.ref f56)))
    (h256 : PySem.W.nsIn K mainGlobals "_law_far_end" = some (some (.ref f57)))
    (h260 : PySem.W.nsIn K mainGlobals "_law_second" = some (some (.ref f58)))
    (h264 : PySem.W.nsIn K mainGlobals "_law_beside" = some (some (.ref f59)))
    (h268 : PySem.W.nsIn K mainGlobals "_law_factor" = some (some (.ref f60)))
    (h272 : PySem.W.nsIn K mainGlobals "_law_common_ends" = some (some (.ref f61)))
    (h276 : PySem.W.nsIn K mainGlobals "_law_nearest" = some (some (.ref f62)))
    (h280 : PySem.W.nsIn K mainGlobals "_law_met" = some (some (.ref f63)))
    (h284 : PySem.W.nsIn K mainGlobals "_law_asked" = some (some (.ref f64)))
    (h288 : PySem.W.nsIn K mainGlobals "_law_sums" = some (some (.ref f65)))
    (h292 : PySem.W.nsIn K mainGlobals "_law_empty" = some (some (.ref f66)))
    (h296 : PySem.W.nsIn K mainGlobals "_law_around" = some (some (.ref f67)))
    (h300 : PySem.W.nsIn K mainGlobals "_law_weighed" = some (some (.ref f68)))
    (h304 : PySem.W.nsIn K mainGlobals "law" = some (some (.ref f69)))
    (h308 : PySem.W.nsIn K mainGlobals "abs" = some none)
    (h309 : PySem.W.nsIn K mainGlobals "int" = some none)
    (h310 : PySem.W.nsIn K mainGlobals "len" = some none)
    (h311 : PySem.W.nsIn K mainGlobals "list" = some none)
    (h312 : PySem.W.nsIn K mainGlobals "max" = some none)
    (h313 : PySem.W.nsIn K mainGlobals "range" = some none)
    (h314 : PySem.W.nsIn K mainGlobals "isinstance" = some none)
    (h315 : PySem.W.nsIn K mainGlobals "bool" = some none)
    (h316 : PySem.W.nsIn K mainGlobals "zip" = some none)
    (h317 : PySem.W.nsIn K mainGlobals "tuple" = some none)
    (h318 : PySem.W.nsIn K mainGlobals "NotImplemented" = some none)
    (h319 : PySem.W.nsIn K mainGlobals "Ratio" = some (some (.ref C)))
    (h326 : PySem.W.nsIn K mainGlobals "gcd" = some (some (.builtin "math.gcd")))
    (h348 : PySem.W.nsIn K mainGlobals "Interval" = some (some (.ref CI)))
    (h377 : PySem.W.nsIn K mainGlobals "EmptyInterval" = some (some (.ref Z)))
    (h382 : PySem.W.nsIn K mainGlobals "WrongCount" = some (some (.ref Y)))
    (h387 : PySem.W.nsIn K mainGlobals "SpotError" = some (some (.ref S)))
    (h388 : PySem.W.nsIn K mainGlobals "ValueError" = some none)
    (h0 : PySem.W.findIn K (.ref C) "__init__" = some (some (.ref f1)))
    (h5 : PySem.W.findIn K (.ref C) "__add__" = some (some (.ref f2)))
    (h10 : PySem.W.findIn K (.ref C) "__sub__" = some (some (.ref f3)))
    (h15 : PySem.W.findIn K (.ref C) "__mul__" = some (some (.ref f4)))
    (h20 : PySem.W.findIn K (.ref C) "__neg__" = some (some (.ref f5)))
    (h25 : PySem.W.findIn K (.ref C) "__abs__" = some (some (.ref f6)))
    (h30 : PySem.W.findIn K (.ref C) "__radd__" = some (some (.ref f7)))
    (h35 : PySem.W.findIn K (.ref C) "__rmul__" = some (some (.ref f8)))
    (h40 : PySem.W.findIn K (.ref C) "__rsub__" = some (some (.ref f9)))
    (h45 : PySem.W.findIn K (.ref C) "__eq__" = some (some (.ref f10)))
    (h50 : PySem.W.findIn K (.ref C) "__bool__" = some (some (.ref f11)))
    (h55 : PySem.W.findIn K (.ref C) "sign" = some (some (.ref f12)))
    (h84 : PySem.W.findIn K (.ref CI) "__init__" = some (some (.ref f19)))
    (h91 : PySem.W.findIn K (.ref CI) "__contains__" = some (some (.ref f20)))
    (h96 : PySem.W.findIn K (.ref CI) "__eq__" = some (some (.ref f21)))
    (h101 : PySem.W.findIn K (.ref CI) "__add__" = some (some (.ref f22)))
    (h106 : PySem.W.findIn K (.ref CI) "__mul__" = some (some (.ref f23)))
    (h111 : PySem.W.findIn K (.ref CI) "__rmul__" = some (some (.ref f24)))
    (h116 : PySem.W.findIn K (.ref CI) "__neg__" = some (some (.ref f25)))
    (h121 : PySem.W.findIn K (.ref CI) "common" = some (some (.ref f26)))
    (h126 : PySem.W.findIn K (.ref CI) "nearest" = some (some (.ref f27)))
    (h131 : PySem.W.findIn K (.ref CI) "is_single" = some (some (.ref f28)))
    (h138 : PySem.W.findCls K (.ref CI) (.type "type") "single" = some (.get (.builtin "classmethod.__get__") (.ref p29) .none (.ref CI)))
    (h144 : PySem.W.findCls K (.ref CI) (.type "type") "everything" = some (.get (.builtin "classmethod.__get__") (.ref p30) .none (.ref CI)))
    (h150 : PySem.W.findCls K (.ref CI) (.type "type") "around" = some (.get (.builtin "classmethod.__get__") (.ref p31) .none (.ref CI)))
    (h139 : PySem.W.recIn K p29 "classmethod" = some (.ref f29 :: rest29))
    (h145 : PySem.W.recIn K p30 "classmethod" = some (.ref f30 :: rest30))
    (h151 : PySem.W.recIn K p31 "classmethod" = some (.ref f31 :: rest31))
    (h2 : K.lookup f1 = some ⟨oc1, od1, .func (PySem.W.fnOf "__init__" "Ratio.__init__" (defArgs sInit) (defBody sInit) (defScope sInit) (.ref TT) kV1 dc1 pm1 an1 cd1 ct1), sl1⟩)
    (h7 : K.lookup f2 = some ⟨oc2, od2, .func (PySem.W.fnOf "__add__" "Ratio.__add__" (defArgs sAdd) (defBody sAdd) (defScope sAdd) .none kV2 dc2 pm2 an2 cd2 ct2), sl2⟩)
    (h12 : K.lookup f3 = some ⟨oc3, od3, .func (PySem.W.fnOf "__sub__" "Ratio.__sub__" (defArgs sSub) (defBody sSub) (defScope sSub) .none kV3 dc3 pm3 an3 cd3 ct3), sl3⟩)
    (h17 : K.lookup f4 = some ⟨oc4, od4, .func (PySem.W.fnOf "__mul__" "Ratio.__mul__" (defArgs sMul) (defBody sMul) (defScope sMul) .none kV4 dc4 pm4 an4 cd4 ct4), sl4⟩)
    (h22 : K.lookup f5 = some ⟨oc5, od5, .func (PySem.W.fnOf "__neg__" "Ratio.__neg__" (defArgs sNeg) (defBody sNeg) (defScope sNeg) .none kV5 dc5 pm5 an5 cd5 ct5), sl5⟩)
    (h27 : K.lookup f6 = some ⟨oc6, od6, .func (PySem.W.fnOf "__abs__" "Ratio.__abs__" (defArgs sAbs) (defBody sAbs) (defScope sAbs) .none kV6 dc6 pm6 an6 cd6 ct6), sl6⟩)
    (h32 : K.lookup f7 = some ⟨oc7, od7, .func (PySem.W.fnOf "__radd__" "Ratio.__radd__" (defArgs sRadd) (defBody sRadd) (defScope sRadd) .none kV7 dc7 pm7 an7 cd7 ct7), sl7⟩)
    (h37 : K.lookup f8 = some ⟨oc8, od8, .func (PySem.W.fnOf "__rmul__" "Ratio.__rmul__" (defArgs sRmul) (defBody sRmul) (defScope sRmul) .none kV8 dc8 pm8 an8 cd8 ct8), sl8⟩)
    (h42 : K.lookup f9 = some ⟨oc9, od9, .func (PySem.W.fnOf "__rsub__" "Ratio.__rsub__" (defArgs sRsub) (defBody sRsub) (defScope sRsub) .none kV9 dc9 pm9 an9 cd9 ct9), sl9⟩)
    (h47 : K.lookup f10 = some ⟨oc10, od10, .func (PySem.W.fnOf "__eq__" "Ratio.__eq__" (defArgs sEq) (defBody sEq) (defScope sEq) .none kV10 dc10 pm10 an10 cd10 ct10), sl10⟩)
    (h52 : K.lookup f11 = some ⟨oc11, od11, .func (PySem.W.fnOf "__bool__" "Ratio.__bool__" (defArgs sBool) (defBody sBool) (defScope sBool) .none kV11 dc11 pm11 an11 cd11 ct11), sl11⟩)
    (h57 : K.lookup f12 = some ⟨oc12, od12, .func (PySem.W.fnOf "sign" "Ratio.sign" (defArgs sSign) (defBody sSign) (defScope sSign) .none kV12 dc12 pm12 an12 cd12 ct12), sl12⟩)
    (h61 : K.lookup f13 = some ⟨oc13, od13, .func (PySem.W.fnOf "compare" "compare" (defArgs sCompare) (defBody sCompare) (defScope sCompare) .none kV13 dc13 pm13 an13 cd13 ct13), sl13⟩)
    (h65 : K.lookup f14 = some ⟨oc14, od14, .func (PySem.W.fnOf "is_beyond" "is_beyond" (defArgs sBey) (defBody sBey) (defScope sBey) .none kV14 dc14 pm14 an14 cd14 ct14), sl14⟩)
    (h69 : K.lookup f15 = some ⟨oc15, od15, .func (PySem.W.fnOf "larger_low" "larger_low" (defArgs sLar) (defBody sLar) (defScope sLar) .none kV15 dc15 pm15 an15 cd15 ct15), sl15⟩)
    (h73 : K.lookup f16 = some ⟨oc16, od16, .func (PySem.W.fnOf "smaller_high" "smaller_high" (defArgs sSma) (defBody sSma) (defScope sSma) .none kV16 dc16 pm16 an16 cd16 ct16), sl16⟩)
    (h77 : K.lookup f17 = some ⟨oc17, od17, .func (PySem.W.fnOf "sum_of_ends" "sum_of_ends" (defArgs sSoe) (defBody sSoe) (defScope sSoe) .none kV17 dc17 pm17 an17 cd17 ct17), sl17⟩)
    (h81 : K.lookup f18 = some ⟨oc18, od18, .func (PySem.W.fnOf "multiple_of_end" "multiple_of_end" (defArgs sMoe) (defBody sMoe) (defScope sMoe) .none kV18 dc18 pm18 an18 cd18 ct18), sl18⟩)
    (h86 : K.lookup f19 = some ⟨oc19, od19, .func (PySem.W.fnOf "__init__" "Interval.__init__" (defArgs sIInit) (defBody sIInit) (defScope sIInit) .none kV19 dc19 pm19 an19 cd19 ct19), sl19⟩)
    (h93 : K.lookup f20 = some ⟨oc20, od20, .func (PySem.W.fnOf "__contains__" "Interval.__contains__" (defArgs sICon) (defBody sICon) (defScope sICon) .none kV20 dc20 pm20 an20 cd20 ct20), sl20⟩)
    (h98 : K.lookup f21 = some ⟨oc21, od21, .func (PySem.W.fnOf "__eq__" "Interval.__eq__" (defArgs sIEq) (defBody sIEq) (defScope sIEq) .none kV21 dc21 pm21 an21 cd21 ct21), sl21⟩)
    (h103 : K.lookup f22 = some ⟨oc22, od22, .func (PySem.W.fnOf "__add__" "Interval.__add__" (defArgs sIAdd) (defBody sIAdd) (defScope sIAdd) .none kV22 dc22 pm22 an22 cd22 ct22), sl22⟩)
    (h108 : K.lookup f23 = some ⟨oc23, od23, .func (PySem.W.fnOf "__mul__" "Interval.__mul__" (defArgs sIMul) (defBody sIMul) (defScope sIMul) .none kV23 dc23 pm23 an23 cd23 ct23), sl23⟩)
    (h113 : K.lookup f24 = some ⟨oc24, od24, .func (PySem.W.fnOf "__rmul__" "Interval.__rmul__" (defArgs sIRmul) (defBody sIRmul) (defScope sIRmul) .none kV24 dc24 pm24 an24 cd24 ct24), sl24⟩)
    (h118 : K.lookup f25 = some ⟨oc25, od25, .func (PySem.W.fnOf "__neg__" "Interval.__neg__" (defArgs sINeg) (defBody sINeg) (defScope sINeg) .none kV25 dc25 pm25 an25 cd25 ct25), sl25⟩)
    (h123 : K.lookup f26 = some ⟨oc26, od26, .func (PySem.W.fnOf "common" "Interval.common" (defArgs sICom) (defBody sICom) (defScope sICom) .none kV26 dc26 pm26 an26 cd26 ct26), sl26⟩)
    (h128 : K.lookup f27 = some ⟨oc27, od27, .func (PySem.W.fnOf "nearest" "Interval.nearest" (defArgs sINear) (defBody sINear) (defScope sINear) .none kV27 dc27 pm27 an27 cd27 ct27), sl27⟩)
    (h133 : K.lookup f28 = some ⟨oc28, od28, .func (PySem.W.fnOf "is_single" "Interval.is_single" (defArgs sIIss) (defBody sIIss) (defScope sIIss) .none kV28 dc28 pm28 an28 cd28 ct28), sl28⟩)
    (h141 : K.lookup f29 = some ⟨oc29, od29, .func (PySem.W.fnOf "single" "Interval.single" (defArgs sISing) (defBody sISing) (defScope sISing) .none kV29 dc29 pm29 an29 cd29 ct29), sl29⟩)
    (h147 : K.lookup f30 = some ⟨oc30, od30, .func (PySem.W.fnOf "everything" "Interval.everything" (defArgs sIEv) (defBody sIEv) (defScope sIEv) .none kV30 dc30 pm30 an30 cd30 ct30), sl30⟩)
    (h153 : K.lookup f31 = some ⟨oc31, od31, .func (PySem.W.fnOf "around" "Interval.around" (defArgs sIAr) (defBody sIAr) (defScope sIAr) .none kV31 dc31 pm31 an31 cd31 ct31), sl31⟩)
    (h157 : K.lookup f32 = some ⟨oc32, od32, .func (PySem.W.fnOf "weighted_interval" "weighted_interval" (defArgs sWei) (defBody sWei) (defScope sWei) .none kV32 dc32 pm32 an32 cd32 ct32), sl32⟩)
    (h161 : K.lookup f33 = some ⟨oc33, od33, .func (PySem.W.fnOf "_law_take" "_law_take" (defArgs sTake) (defBody sTake) (defScope sTake) .none kV33 dc33 pm33 an33 cd33 ct33), sl33⟩)
    (h165 : K.lookup f34 = some ⟨oc34, od34, .func (PySem.W.fnOf "_law_pool" "_law_pool" (defArgs sPool) (defBody sPool) (defScope sPool) .none kV34 dc34 pm34 an34 cd34 ct34), sl34⟩)
    (h169 : K.lookup f35 = some ⟨oc35, od35, .func (PySem.W.fnOf "_law_integer" "_law_integer" (defArgs sInteger) (defBody sInteger) (defScope sInteger) .none kV35 dc35 pm35 an35 cd35 ct35), sl35⟩)
    (h173 : K.lookup f36 = some ⟨oc36, od36, .func (PySem.W.fnOf "_law_common" "_law_common" (defArgs sCommon) (defBody sCommon) (defScope sCommon) .none kV36 dc36 pm36 an36 cd36 ct36), sl36⟩)
    (h177 : K.lookup f37 = some ⟨oc37, od37, .func (PySem.W.fnOf "_law_less" "_law_less" (defArgs sLess) (defBody sLess) (defScope sLess) .none kV37 dc37 pm37 an37 cd37 ct37), sl37⟩)
    (h181 : K.lookup f38 = some ⟨oc38, od38, .func (PySem.W.fnOf "_law_equal" "_law_equal" (defArgs sEqual) (defBody sEqual) (defScope sEqual) .none kV38 dc38 pm38 an38 cd38 ct38), sl38⟩)
    (h185 : K.lookup f39 = some ⟨oc39, od39, .func (PySem.W.fnOf "_law_low" "_law_low" (defArgs sLow) (defBody sLow) (defScope sLow) .none kV39 dc39 pm39 an39 cd39 ct39), sl39⟩)
    (h189 : K.lookup f40 = some ⟨oc40, od40, .func (PySem.W.fnOf "_law_plus" "_law_plus" (defArgs sPlus) (defBody sPlus) (defScope sPlus) .none kV40 dc40 pm40 an40 cd40 ct40), sl40⟩)
    (h193 : K.lookup f41 = some ⟨oc41, od41, .func (PySem.W.fnOf "_law_pair" "_law_pair" (defArgs sPair) (defBody sPair) (defScope sPair) .none kV41 dc41 pm41 an41 cd41 ct41), sl41⟩)
    (h197 : K.lookup f42 = some ⟨oc42, od42, .func (PySem.W.fnOf "_law_told_number" "_law_told_number" (defArgs sToldN) (defBody sToldN) (defScope sToldN) .none kV42 dc42 pm42 an42 cd42 ct42), sl42⟩)
    (h201 : K.lookup f43 = some ⟨oc43, od43, .func (PySem.W.fnOf "_law_is_end" "_law_is_end" (defArgs sIsEnd) (defBody sIsEnd) (defScope sIsEnd) .none kV43 dc43 pm43 an43 cd43 ct43), sl43⟩)
    (h205 : K.lookup f44 = some ⟨oc44, od44, .func (PySem.W.fnOf "_law_same_told" "_law_same_told" (defArgs sSameT) (defBody sSameT) (defScope sSameT) .none kV44 dc44 pm44 an44 cd44 ct44), sl44⟩)
    (h209 : K.lookup f45 = some ⟨oc45, od45, .func (PySem.W.fnOf "_law_contains" "_law_contains" (defArgs sCont) (defBody sCont) (defScope sCont) .none kV45 dc45 pm45 an45 cd45 ct45), sl45⟩)
    (h213 : K.lookup f46 = some ⟨oc46, od46, .func (PySem.W.fnOf "_law_flag" "_law_flag" (defArgs sFlag) (defBody sFlag) (defScope sFlag) .none kV46 dc46 pm46 an46 cd46 ct46), sl46⟩)
    (h217 : K.lookup f47 = some ⟨oc47, od47, .func (PySem.W.fnOf "_law_same_end" "_law_same_end" (defArgs sSameE) (defBody sSameE) (defScope sSameE) .none kV47 dc47 pm47 an47 cd47 ct47), sl47⟩)
    (h221 : K.lookup f48 = some ⟨oc48, od48, .func (PySem.W.fnOf "_law_same_ends" "_law_same_ends" (defArgs sSameS) (defBody sSameS) (defScope sSameS) .none kV48 dc48 pm48 an48 cd48 ct48), sl48⟩)
    (h225 : K.lookup f49 = some ⟨oc49, od49, .func (PySem.W.fnOf "_law_by" "_law_by" (defArgs sBy) (defBody sBy) (defScope sBy) .none kV49 dc49 pm49 an49 cd49 ct49), sl49⟩)
    (h229 : K.lookup f50 = some ⟨oc50, od50, .func (PySem.W.fnOf "_law_stretched" "_law_stretched" (defArgs sStr) (defBody sStr) (defScope sStr) .none kV50 dc50 pm50 an50 cd50 ct50), sl50⟩)
    (h233 : K.lookup f51 = some ⟨oc51, od51, .func (PySem.W.fnOf "_law_joined" "_law_joined" (defArgs sJoin) (defBody sJoin) (defScope sJoin) .none kV51 dc51 pm51 an51 cd51 ct51), sl51⟩)
    (h237 : K.lookup f52 = some ⟨oc52, od52, .func (PySem.W.fnOf "_law_total" "_law_total" (defArgs sTot) (defBody sTot) (defScope sTot) .none kV52 dc52 pm52 an52 cd52 ct52), sl52⟩)
    (h241 : K.lookup f53 = some ⟨oc53, od53, .func (PySem.W.fnOf "_law_given_end" "_law_given_end" (defArgs sGiv) (defBody sGiv) (defScope sGiv) .none kV53 dc53 pm53 an53 cd53 ct53), sl53⟩)
    (h245 : K.lookup f54 = some ⟨oc54, od54, .func (PySem.W.fnOf "_law_interval" "_law_interval" (defArgs sIvl) (defBody sIvl) (defScope sIvl) .none kV54 dc54 pm54 an54 cd54 ct54), sl54⟩)
    (h249 : K.lookup f55 = some ⟨oc55, od55, .func (PySem.W.fnOf "_law_ordered" "_law_ordered" (defArgs sOrd) (defBody sOrd) (defScope sOrd) .none kV55 dc55 pm55 an55 cd55 ct55), sl55⟩)
    (h253 : K.lookup f56 = some ⟨oc56, od56, .func (PySem.W.fnOf "_law_wide_number" "_law_wide_number" (defArgs sWide) (defBody sWide) (defScope sWide) .none kV56 dc56 pm56 an56 cd56 ct56), sl56⟩)
    (h257 : K.lookup f57 = some ⟨oc57, od57, .func (PySem.W.fnOf "_law_far_end" "_law_far_end" (defArgs sFar) (defBody sFar) (defScope sFar) .none kV57 dc57 pm57 an57 cd57 ct57), sl57⟩)
    (h261 : K.lookup f58 = some ⟨oc58, od58, .func (PySem.W.fnOf "_law_second" "_law_second" (defArgs sSecond) (defBody sSecond) (defScope sSecond) .none kV58 dc58 pm58 an58 cd58 ct58), sl58⟩)
    (h265 : K.lookup f59 = some ⟨oc59, od59, .func (PySem.W.fnOf "_law_beside" "_law_beside" (defArgs sBeside) (defBody sBeside) (defScope sBeside) .none kV59 dc59 pm59 an59 cd59 ct59), sl59⟩)
    (h269 : K.lookup f60 = some ⟨oc60, od60, .func (PySem.W.fnOf "_law_factor" "_law_factor" (defArgs sFactor) (defBody sFactor) (defScope sFactor) .none kV60 dc60 pm60 an60 cd60 ct60), sl60⟩)
    (h273 : K.lookup f61 = some ⟨oc61, od61, .func (PySem.W.fnOf "_law_common_ends" "_law_common_ends" (defArgs sComE) (defBody sComE) (defScope sComE) .none kV61 dc61 pm61 an61 cd61 ct61), sl61⟩)
    (h277 : K.lookup f62 = some ⟨oc62, od62, .func (PySem.W.fnOf "_law_nearest" "_law_nearest" (defArgs sNea) (defBody sNea) (defScope sNea) .none kV62 dc62 pm62 an62 cd62 ct62), sl62⟩)
    (h281 : K.lookup f63 = some ⟨oc63, od63, .func (PySem.W.fnOf "_law_met" "_law_met" (defArgs sMet) (defBody sMet) (defScope sMet) .none kV63 dc63 pm63 an63 cd63 ct63), sl63⟩)
    (h285 : K.lookup f64 = some ⟨oc64, od64, .func (PySem.W.fnOf "_law_asked" "_law_asked" (defArgs sAsk) (defBody sAsk) (defScope sAsk) .none kV64 dc64 pm64 an64 cd64 ct64), sl64⟩)
    (h289 : K.lookup f65 = some ⟨oc65, od65, .func (PySem.W.fnOf "_law_sums" "_law_sums" (defArgs sSums) (defBody sSums) (defScope sSums) .none kV65 dc65 pm65 an65 cd65 ct65), sl65⟩)
    (h293 : K.lookup f66 = some ⟨oc66, od66, .func (PySem.W.fnOf "_law_empty" "_law_empty" (defArgs sEmp) (defBody sEmp) (defScope sEmp) .none kV66 dc66 pm66 an66 cd66 ct66), sl66⟩)
    (h297 : K.lookup f67 = some ⟨oc67, od67, .func (PySem.W.fnOf "_law_around" "_law_around" (defArgs sAro) (defBody sAro) (defScope sAro) .none kV67 dc67 pm67 an67 cd67 ct67), sl67⟩)
    (h301 : K.lookup f68 = some ⟨oc68, od68, .func (PySem.W.fnOf "_law_weighed" "_law_weighed" (defArgs sWgh) (defBody sWgh) (defScope sWgh) .none kV68 dc68 pm68 an68 cd68 ct68), sl68⟩)
    (h305 : K.lookup f69 = some ⟨oc69, od69, .func (PySem.W.fnOf "law" "law" (defArgs sLaw) (defBody sLaw) (defScope sLaw) .none kV69 dc69 pm69 an69 cd69 ct69), sl69⟩)
    (h3 : PySem.W.codeIn K cd1 "Ratio.__init__" = true)
    (h8 : PySem.W.codeIn K cd2 "Ratio.__add__" = true)
    (h13 : PySem.W.codeIn K cd3 "Ratio.__sub__" = true)
    (h18 : PySem.W.codeIn K cd4 "Ratio.__mul__" = true)
    (h23 : PySem.W.codeIn K cd5 "Ratio.__neg__" = true)
    (h28 : PySem.W.codeIn K cd6 "Ratio.__abs__" = true)
    (h33 : PySem.W.codeIn K cd7 "Ratio.__radd__" = true)
    (h38 : PySem.W.codeIn K cd8 "Ratio.__rmul__" = true)
    (h43 : PySem.W.codeIn K cd9 "Ratio.__rsub__" = true)
    (h48 : PySem.W.codeIn K cd10 "Ratio.__eq__" = true)
    (h53 : PySem.W.codeIn K cd11 "Ratio.__bool__" = true)
    (h58 : PySem.W.codeIn K cd12 "Ratio.sign" = true)
    (h62 : PySem.W.codeIn K cd13 "compare" = true)
    (h66 : PySem.W.codeIn K cd14 "is_beyond" = true)
    (h70 : PySem.W.codeIn K cd15 "larger_low" = true)
    (h74 : PySem.W.codeIn K cd16 "smaller_high" = true)
    (h78 : PySem.W.codeIn K cd17 "sum_of_ends" = true)
    (h82 : PySem.W.codeIn K cd18 "multiple_of_end" = true)
    (h87 : PySem.W.codeIn K cd19 "Interval.__init__" = true)
    (h94 : PySem.W.codeIn K cd20 "Interval.__contains__" = true)
    (h99 : PySem.W.codeIn K cd21 "Interval.__eq__" = true)
    (h104 : PySem.W.codeIn K cd22 "Interval.__add__" = true)
    (h109 : PySem.W.codeIn K cd23 "Interval.__mul__" = true)
    (h114 : PySem.W.codeIn K cd24 "Interval.__rmul__" = true)
    (h119 : PySem.W.codeIn K cd25 "Interval.__neg__" = true)
    (h124 : PySem.W.codeIn K cd26 "Interval.common" = true)
    (h129 : PySem.W.codeIn K cd27 "Interval.nearest" = true)
    (h134 : PySem.W.codeIn K cd28 "Interval.is_single" = true)
    (h142 : PySem.W.codeIn K cd29 "Interval.single" = true)
    (h148 : PySem.W.codeIn K cd30 "Interval.everything" = true)
    (h154 : PySem.W.codeIn K cd31 "Interval.around" = true)
    (h158 : PySem.W.codeIn K cd32 "weighted_interval" = true)
    (h162 : PySem.W.codeIn K cd33 "_law_take" = true)
    (h166 : PySem.W.codeIn K cd34 "_law_pool" = true)
    (h170 : PySem.W.codeIn K cd35 "_law_integer" = true)
    (h174 : PySem.W.codeIn K cd36 "_law_common" = true)
    (h178 : PySem.W.codeIn K cd37 "_law_less" = true)
    (h182 : PySem.W.codeIn K cd38 "_law_equal" = true)
    (h186 : PySem.W.codeIn K cd39 "_law_low" = true)
    (h190 : PySem.W.codeIn K cd40 "_law_plus" = true)
    (h194 : PySem.W.codeIn K cd41 "_law_pair" = true)
    (h198 : PySem.W.codeIn K cd42 "_law_told_number" = true)
    (h202 : PySem.W.codeIn K cd43 "_law_is_end" = true)
    (h206 : PySem.W.codeIn K cd44 "_law_same_told" = true)
    (h210 : PySem.W.codeIn K cd45 "_law_contains" = true)
    (h214 : PySem.W.codeIn K cd46 "_law_flag" = true)
    (h218 : PySem.W.codeIn K cd47 "_law_same_end" = true)
    (h222 : PySem.W.codeIn K cd48 "_law_same_ends" = true)
    (h226 : PySem.W.codeIn K cd49 "_law_by" = true)
    (h230 : PySem.W.codeIn K cd50 "_law_stretched" = true)
    (h234 : PySem.W.codeIn K cd51 "_law_joined" = true)
    (h238 : PySem.W.codeIn K cd52 "_law_total" = true)
    (h242 : PySem.W.codeIn K cd53 "_law_given_end" = true)
    (h246 : PySem.W.codeIn K cd54 "_law_interval" = true)
    (h250 : PySem.W.codeIn K cd55 "_law_ordered" = true)
    (h254 : PySem.W.codeIn K cd56 "_law_wide_number" = true)
    (h258 : PySem.W.codeIn K cd57 "_law_far_end" = true)
    (h262 : PySem.W.codeIn K cd58 "_law_second" = true)
    (h266 : PySem.W.codeIn K cd59 "_law_beside" = true)
    (h270 : PySem.W.codeIn K cd60 "_law_factor" = true)
    (h274 : PySem.W.codeIn K cd61 "_law_common_ends" = true)
    (h278 : PySem.W.codeIn K cd62 "_law_nearest" = true)
    (h282 : PySem.W.codeIn K cd63 "_law_met" = true)
    (h286 : PySem.W.codeIn K cd64 "_law_asked" = true)
    (h290 : PySem.W.codeIn K cd65 "_law_sums" = true)
    (h294 : PySem.W.codeIn K cd66 "_law_empty" = true)
    (h298 : PySem.W.codeIn K cd67 "_law_around" = true)
    (h302 : PySem.W.codeIn K cd68 "_law_weighed" = true)
    (h306 : PySem.W.codeIn K cd69 "law" = true)
    (h1 : PySem.W.isFn K (.ref f1) = true)
    (h4 : PySem.W.keepIn K (.ref f1) = true)
    (h6 : PySem.W.isFn K (.ref f2) = true)
    (h9 : PySem.W.keepIn K (.ref f2) = true)
    (h11 : PySem.W.isFn K (.ref f3) = true)
    (h14 : PySem.W.keepIn K (.ref f3) = true)
    (h16 : PySem.W.isFn K (.ref f4) = true)
    (h19 : PySem.W.keepIn K (.ref f4) = true)
    (h21 : PySem.W.isFn K (.ref f5) = true)
    (h24 : PySem.W.keepIn K (.ref f5) = true)
    (h26 : PySem.W.isFn K (.ref f6) = true)
    (h29 : PySem.W.keepIn K (.ref f6) = true)
    (h31 : PySem.W.isFn K (.ref f7) = true)
    (h34 : PySem.W.keepIn K (.ref f7) = true)
    (h36 : PySem.W.isFn K (.ref f8) = true)
    (h39 : PySem.W.keepIn K (.ref f8) = true)
    (h41 : PySem.W.isFn K (.ref f9) = true)
    (h44 : PySem.W.keepIn K (.ref f9) = true)
    (h46 : PySem.W.isFn K (.ref f10) = true)
    (h49 : PySem.W.keepIn K (.ref f10) = true)
    (h51 : PySem.W.isFn K (.ref f11) = true)
    (h54 : PySem.W.keepIn K (.ref f11) = true)
    (h56 : PySem.W.isFn K (.ref f12) = true)
    (h59 : PySem.W.keepIn K (.ref f12) = true)
    (h63 : PySem.W.keepIn K (.ref f13) = true)
    (h67 : PySem.W.keepIn K (.ref f14) = true)
    (h71 : PySem.W.keepIn K (.ref f15) = true)
    (h75 : PySem.W.keepIn K (.ref f16) = true)
    (h79 : PySem.W.keepIn K (.ref f17) = true)
    (h83 : PySem.W.keepIn K (.ref f18) = true)
    (h85 : PySem.W.isFn K (.ref f19) = true)
    (h88 : PySem.W.keepIn K (.ref f19) = true)
    (h89 : PySem.W.makesIn K CI = true)
    (h90 : PySem.W.keepIn K (.ref CI) = true)
    (h92 : PySem.W.isFn K (.ref f20) = true)
    (h95 : PySem.W.keepIn K (.ref f20) = true)
    (h97 : PySem.W.isFn K (.ref f21) = true)
    (h100 : PySem.W.keepIn K (.ref f21) = true)
    (h102 : PySem.W.isFn K (.ref f22) = true)
    (h105 : PySem.W.keepIn K (.ref f22) = true)
    (h107 : PySem.W.isFn K (.ref f23) = true)
    (h110 : PySem.W.keepIn K (.ref f23) = true)
    (h112 : PySem.W.isFn K (.ref f24) = true)
    (h115 : PySem.W.keepIn K (.ref f24) = true)
    (h117 : PySem.W.isFn K (.ref f25) = true)
    (h120 : PySem.W.keepIn K (.ref f25) = true)
    (h122 : PySem.W.isFn K (.ref f26) = true)
    (h125 : PySem.W.keepIn K (.ref f26) = true)
    (h127 : PySem.W.isFn K (.ref f27) = true)
    (h130 : PySem.W.keepIn K (.ref f27) = true)
    (h132 : PySem.W.isFn K (.ref f28) = true)
    (h135 : PySem.W.keepIn K (.ref f28) = true)
    (h136 : PySem.W.readsIn K CI (.type "type") = true)
    (h137 : PySem.W.specialIn K (.ref CI) "__getattribute__" = some (some (.builtin "type.__getattribute__")))
    (h140 : PySem.W.fnIn K f29 = true)
    (h143 : PySem.W.keepIn K (.ref f29) = true)
    (h146 : PySem.W.fnIn K f30 = true)
    (h149 : PySem.W.keepIn K (.ref f30) = true)
    (h152 : PySem.W.fnIn K f31 = true)
    (h155 : PySem.W.keepIn K (.ref f31) = true)
    (h159 : PySem.W.keepIn K (.ref f32) = true)
    (h163 : PySem.W.keepIn K (.ref f33) = true)
    (h167 : PySem.W.keepIn K (.ref f34) = true)
    (h171 : PySem.W.keepIn K (.ref f35) = true)
    (h175 : PySem.W.keepIn K (.ref f36) = true)
    (h179 : PySem.W.keepIn K (.ref f37) = true)
    (h183 : PySem.W.keepIn K (.ref f38) = true)
    (h187 : PySem.W.keepIn K (.ref f39) = true)
    (h191 : PySem.W.keepIn K (.ref f40) = true)
    (h195 : PySem.W.keepIn K (.ref f41) = true)
    (h199 : PySem.W.keepIn K (.ref f42) = true)
    (h203 : PySem.W.keepIn K (.ref f43) = true)
    (h207 : PySem.W.keepIn K (.ref f44) = true)
    (h211 : PySem.W.keepIn K (.ref f45) = true)
    (h215 : PySem.W.keepIn K (.ref f46) = true)
    (h219 : PySem.W.keepIn K (.ref f47) = true)
    (h223 : PySem.W.keepIn K (.ref f48) = true)
    (h227 : PySem.W.keepIn K (.ref f49) = true)
    (h231 : PySem.W.keepIn K (.ref f50) = true)
    (h235 : PySem.W.keepIn K (.ref f51) = true)
    (h239 : PySem.W.keepIn K (.ref f52) = true)
    (h243 : PySem.W.keepIn K (.ref f53) = true)
    (h247 : PySem.W.keepIn K (.ref f54) = true)
    (h251 : PySem.W.keepIn K (.ref f55) = true)
    (h255 : PySem.W.keepIn K (.ref f56) = true)
    (h259 : PySem.W.keepIn K (.ref f57) = true)
    (h263 : PySem.W.keepIn K (.ref f58) = true)
    (h267 : PySem.W.keepIn K (.ref f59) = true)
    (h271 : PySem.W.keepIn K (.ref f60) = true)
    (h275 : PySem.W.keepIn K (.ref f61) = true)
    (h279 : PySem.W.keepIn K (.ref f62) = true)
    (h283 : PySem.W.keepIn K (.ref f63) = true)
    (h287 : PySem.W.keepIn K (.ref f64) = true)
    (h291 : PySem.W.keepIn K (.ref f65) = true)
    (h295 : PySem.W.keepIn K (.ref f66) = true)
    (h299 : PySem.W.keepIn K (.ref f67) = true)
    (h303 : PySem.W.keepIn K (.ref f68) = true)
    (h307 : PySem.W.keepIn K (.ref f69) = true)
    (h320 : PySem.W.plainGet K C Str.empty = true)
    (h321 : PySem.W.hasDictIn K C = true)
    (h322 : PySem.W.plainOver K C = true)
    (h323 : PySem.W.findIn K (.ref C) "__setattr__" = some (some (.builtin "object.__setattr__")))
    (h324 : PySem.W.findIn K (.ref C) "top" = some none)
    (h325 : PySem.W.findIn K (.ref C) "bottom" = some none)
    (h327 : PySem.W.findIn K (.ref C) "__class__" = some (some (.builtin "object.__class__")))
    (h328 : PySem.W.specialIn K (.builtin "object.__class__") "__get__" = some (some (.builtin "getset_descriptor.__get__")))
    (h329 : PySem.W.takesIn K (.builtin "object.__class__") = some true)
    (h330 : PySem.W.mroIn K C (.type "object") = some true)
    (h331 : PySem.W.selfFirst K C = true)
    (h332 : PySem.W.kitOne K (.ref C) (.ref C) = some true)
    (h333 : PySem.W.kitOne K (.type "int") (.ref C) = some false)
    (h334 : PySem.W.kitOne K (.type "int") (.type "int") = some true)
    (h335 : PySem.W.kitOne K (.type "int") (.type "bool") = some false)
    (h336 : PySem.W.subIn K (.type "int") (.ref C) = some false)
    (h337 : PySem.W.subIn K (.ref C) (.type "int") = some false)
    (h338 : PySem.W.notFirst K C (.type "int") = true)
    (h339 : PySem.W.notFirst K C (.ref C) = true)
    (h340 : PySem.W.findIn K (.ref C) "__ne__" = some (some (.builtin "object.__ne__")))
    (h341 : PySem.W.subIn K (.ref C) (.type "object") = some true)
    (h342 : PySem.W.findIn K (.type "int") "__add__" = some fo0)
    (h343 : PySem.W.findIn K (.type "int") "__radd__" = some fo1)
    (h344 : PySem.W.findIn K (.type "int") "__sub__" = some fo2)
    (h345 : PySem.W.findIn K (.type "int") "__rsub__" = some fo3)
    (h346 : PySem.W.findIn K (.type "int") "__mul__" = some fo4)
    (h347 : PySem.W.findIn K (.type "int") "__rmul__" = some fo5)
    (h349 : PySem.W.plainGet K CI Str.empty = true)
    (h350 : PySem.W.hasDictIn K CI = true)
    (h351 : PySem.W.plainOver K CI = true)
    (h352 : PySem.W.findIn K (.ref CI) "__setattr__" = some (some (.builtin "object.__setattr__")))
    (h353 : PySem.W.findIn K (.ref CI) "low" = some none)
    (h354 : PySem.W.findIn K (.ref CI) "high" = some none)
    (h355 : PySem.W.findIn K (.ref CI) "__class__" = some (some (.builtin "object.__class__")))
    (h356 : PySem.W.mroIn K CI (.type "object") = some true)
    (h357 : PySem.W.selfFirst K CI = true)
    (h359 : PySem.W.kitOne K (.ref CI) (.ref CI) = some true)
    (h360 : PySem.W.kitOne K (.type "NoneType") (.ref CI) = some false)
    (h361 : PySem.W.kitOne K (.ref CI) (.ref C) = some false)
    (h362 : PySem.W.kitOne K (.ref CI) (.type "int") = some false)
    (h363 : PySem.W.kitOne K (.type "NoneType") (.ref C) = some false)
    (h364 : PySem.W.kitAny K (.ref C) [.ref C, .type "int"] = some true)
    (h365 : PySem.W.kitAny K (.type "int") [.ref C, .type "int"] = some true)
    (h366 : PySem.W.kitOne K (.type "NoneType") (.type "int") = some false)
    (h367 : PySem.W.kitOne K (.ref C) (.type "int") = some false)
    (h368 : PySem.W.kitOne K (.type "bool") (.type "bool") = some true)
    (h369 : PySem.W.subIn K (.ref CI) (.ref C) = some false)
    (h370 : PySem.W.subIn K (.ref C) (.ref CI) = some false)
    (h371 : PySem.W.subIn K (.ref CI) (.type "int") = some false)
    (h372 : PySem.W.subIn K (.type "int") (.ref CI) = some false)
    (h373 : PySem.W.notFirst K CI (.ref C) = true)
    (h374 : PySem.W.notFirst K CI (.ref CI) = true)
    (h375 : PySem.W.notFirst K C (.type "NoneType") = true)
    (h376 : PySem.W.subIn K (.ref C) (.type "NoneType") = some false)
    (h378 : PySem.W.keepIn K (.ref Z) = true)
    (h380 : PySem.W.subIn K (.ref Z) (.type "BaseException") = some true)
    (h381 : PySem.W.typeIn K (.ref Z) = some (.type "type"))
    (h383 : PySem.W.keepIn K (.ref Y) = true)
    (h385 : PySem.W.subIn K (.ref Y) (.type "BaseException") = some true)
    (h386 : PySem.W.typeIn K (.ref Y) = some (.type "type"))
    (h389 : PySem.W.findIn K (.ref Z) "__getattribute__" = some (some (.builtin "BaseException.__getattribute__")))
    (h390 : PySem.W.findIn K (.ref Z) "__getattr__" = some none)
    (h391 : PySem.W.hasDictIn K Z = true)
    (h392 : PySem.W.findIn K (.ref Z) "__class__" = some (some (.builtin "object.__class__")))
    (h393 : PySem.W.mroIn K Z (.type "object") = some true)
    (h394 : PySem.W.findIn K (.ref Y) "__getattribute__" = some (some (.builtin "BaseException.__getattribute__")))
    (h395 : PySem.W.findIn K (.ref Y) "__getattr__" = some none)
    (h396 : PySem.W.hasDictIn K Y = true)
    (h397 : PySem.W.findIn K (.ref Y) "__class__" = some (some (.builtin "object.__class__")))
    (h398 : PySem.W.mroIn K Y (.type "object") = some true)
    (h399 : PySem.W.exmOne K (.ref Z) (.ref S) = some true)
    (h400 : PySem.W.exmOne K (.ref Z) (.ref Z) = some true)
    (h401 : PySem.W.exmOne K (.ref Y) (.ref S) = some true)
    (h402 : PySem.W.kitOne K (.ref Z) (.ref Z) = some true)
    (h403 : PySem.W.kitOne K (.ref Z) (.type "ValueError") = some true)
    (h404 : PySem.W.kitOne K (.ref Z) (.ref Y) = some false)
    (h405 : PySem.W.kitOne K (.ref Z) (.ref S) = some true)
    (h406 : PySem.W.kitOne K (.ref Y) (.ref Y) = some true)
    (h407 : PySem.W.kitOne K (.ref Y) (.ref Z) = some false)
    (h408 : PySem.W.makesIn K C = true)
    (h409 : PySem.W.keepIn K (.ref C) = true)
    (h358 : C ≠ CI)
    (h379 : PySem.W.excIn K Z [.type "ValueError", .type "Exception", .type "BaseException", .type "object"] "ValueError.__new__" = true)
    (h384 : PySem.W.excIn K Y [.type "ValueError", .type "Exception", .type "BaseException", .type "object"] "ValueError.__new__" = true)
    (lT : K.lookup TT = some oT)
    (dT : oT.data = .seq [Value.int 1 tk].toArray nT0)
    : ∃ fd : FuncData, (∀ (s : Shared) (v : Value), BindsTo s fd ⟨[v], []⟩ [("script", v)]) ∧ ∀ base : Heap, K.In base → base.Ns mainGlobals mg → FnOk l.prog w K mg base CX0 12 fa fd ["script"] (spF K preP (fun _ r => r = .bl true)) := by
  have e := hfa.symm.trans (PySem.W.mg_of X G h304)
  cases e
  have F2 := fun_mk (st := sAdd) h7 h8 h9
  have b2 := F2.binds (ps := ["self", "other"]) fun _ _ _ _ _ _ us hl => match us, hl with | [_, _], _ => rfl
  have D_Ratio___add__ : Dm K C "__add__" "Ratio.__add__" sAdd ["self", "other"] f2 _ := ⟨F2, h5, h6, b2⟩
  have F3 := fun_mk (st := sSub) h12 h13 h14
  have b3 := F3.binds (ps := ["self", "other"]) fun _ _ _ _ _ _ us hl => match us, hl with | [_, _], _ => rfl
  have D_Ratio___sub__ : Dm K C "__sub__" "Ratio.__sub__" sSub ["self", "other"] f3 _ := ⟨F3, h10, h11, b3⟩
  have F4 := fun_mk (st := sMul) h17 h18 h19
  have b4 := F4.binds (ps := ["self", "other"]) fun _ _ _ _ _ _ us hl => match us, hl with | [_, _], _ => rfl
  have D_Ratio___mul__ : Dm K C "__mul__" "Ratio.__mul__" sMul ["self", "other"] f4 _ := ⟨F4, h15, h16, b4⟩
  have F5 := fun_mk (st := sNeg) h22 h23 h24
  have b5 := F5.binds (ps := ["self"]) fun _ _ _ _ _ _ us hl => match us, hl with | [_], _ => rfl
  have D_Ratio___neg__ : Dm K C "__neg__" "Ratio.__neg__" sNeg ["self"] f5 _ := ⟨F5, h20, h21, b5⟩
  have F6 := fun_mk (st := sAbs) h27 h28 h29
  have b6 := F6.binds (ps := ["self"]) fun _ _ _ _ _ _ us hl => match us, hl with | [_], _ => rfl
  have D_Ratio___abs__ : Dm K C "__abs__" "Ratio.__abs__" sAbs ["self"] f6 _ := ⟨F6, h25, h26, b6⟩
  have F7 := fun_mk (st := sRadd) h32 h33 h34
  have b7 := F7.binds (ps := ["self", "other"]) fun _ _ _ _ _ _ us hl => match us, hl with | [_, _], _ => rfl
  have D_Ratio___radd__ : Dm K C "__radd__" "Ratio.__radd__" sRadd ["self", "other"] f7 _ := ⟨F7, h30, h31, b7⟩
  have F8 := fun_mk (st := sRmul) h37 h38 h39
  have b8 := F8.binds (ps := ["self", "other"]) fun _ _ _ _ _ _ us hl => match us, hl with | [_, _], _ => rfl
  have D_Ratio___rmul__ : Dm K C "__rmul__" "Ratio.__rmul__" sRmul ["self", "other"] f8 _ := ⟨F8, h35, h36, b8⟩
  have F9 := fun_mk (st := sRsub) h42 h43 h44
  have b9 := F9.binds (ps := ["self", "other"]) fun _ _ _ _ _ _ us hl => match us, hl with | [_, _], _ => rfl
  have D_Ratio___rsub__ : Dm K C "__rsub__" "Ratio.__rsub__" sRsub ["self", "other"] f9 _ := ⟨F9, h40, h41, b9⟩
  have F10 := fun_mk (st := sEq) h47 h48 h49
  have b10 := F10.binds (ps := ["self", "other"]) fun _ _ _ _ _ _ us hl => match us, hl with | [_, _], _ => rfl
  have D_Ratio___eq__ : Dm K C "__eq__" "Ratio.__eq__" sEq ["self", "other"] f10 _ := ⟨F10, h45, h46, b10⟩
  have F11 := fun_mk (st := sBool) h52 h53 h54
  have b11 := F11.binds (ps := ["self"]) fun _ _ _ _ _ _ us hl => match us, hl with | [_], _ => rfl
  have D_Ratio___bool__ : Dm K C "__bool__" "Ratio.__bool__" sBool ["self"] f11 _ := ⟨F11, h50, h51, b11⟩
  have F12 := fun_mk (st := sSign) h57 h58 h59
  have b12 := F12.binds (ps := ["self"]) fun _ _ _ _ _ _ us hl => match us, hl with | [_], _ => rfl
  have D_Ratio_sign : Dm K C "sign" "Ratio.sign" sSign ["self"] f12 _ := ⟨F12, h55, h56, b12⟩
  have F13 := fun_mk (st := sCompare) h61 h62 h63
  have b13 := F13.binds (ps := ["first", "second"]) fun _ _ _ _ _ _ us hl => match us, hl with | [_, _], _ => rfl
  have D_compare : Df K mg "compare" sCompare ["first", "second"] _ _ := ⟨F13, PySem.W.mg_of X G h60, b13⟩
  have F14 := fun_mk (st := sBey) h65 h66 h67
  have b14 := F14.binds (ps := ["low", "high"]) fun _ _ _ _ _ _ us hl => match us, hl with | [_, _], _ => rfl
  have D_is_beyond : Df K mg "is_beyond" sBey ["low", "high"] _ _ := ⟨F14, PySem.W.mg_of X G h64, b14⟩
  have F15 := fun_mk (st := sLar) h69 h70 h71
  have b15 := F15.binds (ps := ["first", "second"]) fun _ _ _ _ _ _ us hl => match us, hl with | [_, _], _ => rfl
  have D_larger_low : Df K mg "larger_low" sLar ["first", "second"] _ _ := ⟨F15, PySem.W.mg_of X G h68, b15⟩
  have F16 := fun_mk (st := sSma) h73 h74 h75
  have b16 := F16.binds (ps := ["first", "second"]) fun _ _ _ _ _ _ us hl => match us, hl with | [_, _], _ => rfl
  have D_smaller_high : Df K mg "smaller_high" sSma ["first", "second"] _ _ := ⟨F16, PySem.W.mg_of X G h72, b16⟩
  have F17 := fun_mk (st := sSoe) h77 h78 h79
  have b17 := F17.binds (ps := ["first", "second"]) fun _ _ _ _ _ _ us hl => match us, hl with | [_, _], _ => rfl
  have D_sum_of_ends : Df K mg "sum_of_ends" sSoe ["first", "second"] _ _ := ⟨F17, PySem.W.mg_of X G h76, b17⟩
  have F18 := fun_mk (st := sMoe) h81 h82 h83
  have b18 := F18.binds (ps := ["end", "factor"]) fun _ _ _ _ _ _ us hl => match us, hl with | [_, _], _ => rfl
  have D_multiple_of_end : Df K mg "multiple_of_end" sMoe ["end", "factor"] _ _ := ⟨F18, PySem.W.mg_of X G h80, b18⟩
  have F19 := fun_mk (st := sIInit) h86 h87 h88
  have b19 := F19.binds (ps := ["self", "low", "high"]) fun _ _ _ _ _ _ us hl => match us, hl with | [_, _, _], _ => rfl
  have D_Interval___init__ : Dm K CI "__init__" "Interval.__init__" sIInit ["self", "low", "high"] f19 _ := ⟨F19, h84, h85, b19⟩
  have MK_CI : Mk K CI f19 := ⟨h89, h84, h85, h90⟩
  have F20 := fun_mk (st := sICon) h93 h94 h95
  have b20 := F20.binds (ps := ["self", "number"]) fun _ _ _ _ _ _ us hl => match us, hl with | [_, _], _ => rfl
  have D_Interval___contains__ : Dm K CI "__contains__" "Interval.__contains__" sICon ["self", "number"] f20 _ := ⟨F20, h91, h92, b20⟩
  have F21 := fun_mk (st := sIEq) h98 h99 h100
  have b21 := F21.binds (ps := ["self", "other"]) fun _ _ _ _ _ _ us hl => match us, hl with | [_, _], _ => rfl
  have D_Interval___eq__ : Dm K CI "__eq__" "Interval.__eq__" sIEq ["self", "other"] f21 _ := ⟨F21, h96, h97, b21⟩
  have F22 := fun_mk (st := sIAdd) h103 h104 h105
  have b22 := F22.binds (ps := ["self", "other"]) fun _ _ _ _ _ _ us hl => match us, hl with | [_, _], _ => rfl
  have D_Interval___add__ : Dm K CI "__add__" "Interval.__add__" sIAdd ["self", "other"] f22 _ := ⟨F22, h101, h102, b22⟩
  have F23 := fun_mk (st := sIMul) h108 h109 h110
  have b23 := F23.binds (ps := ["self", "factor"]) fun _ _ _ _ _ _ us hl => match us, hl with | [_, _], _ => rfl
  have D_Interval___mul__ : Dm K CI "__mul__" "Interval.__mul__" sIMul ["self", "factor"] f23 _ := ⟨F23, h106, h107, b23⟩
  have F24 := fun_mk (st := sIRmul) h113 h114 h115
  have b24 := F24.binds (ps := ["self", "factor"]) fun _ _ _ _ _ _ us hl => match us, hl with | [_, _], _ => rfl
  have D_Interval___rmul__ : Dm K CI "__rmul__" "Interval.__rmul__" sIRmul ["self", "factor"] f24 _ := ⟨F24, h111, h112, b24⟩
  have F25 := fun_mk (st := sINeg) h118 h119 h120
  have b25 := F25.binds (ps := ["self"]) fun _ _ _ _ _ _ us hl => match us, hl with | [_], _ => rfl
  have D_Interval___neg__ : Dm K CI "__neg__" "Interval.__neg__" sINeg ["self"] f25 _ := ⟨F25, h116, h117, b25⟩
  have F26 := fun_mk (st := sICom) h123 h124 h125
  have b26 := F26.binds (ps := ["self", "other"]) fun _ _ _ _ _ _ us hl => match us, hl with | [_, _], _ => rfl
  have D_Interval_common : Dm K CI "common" "Interval.common" sICom ["self", "other"] f26 _ := ⟨F26, h121, h122, b26⟩
  have F27 := fun_mk (st := sINear) h128 h129 h130
  have b27 := F27.binds (ps := ["self", "number"]) fun _ _ _ _ _ _ us hl => match us, hl with | [_, _], _ => rfl
  have D_Interval_nearest : Dm K CI "nearest" "Interval.nearest" sINear ["self", "number"] f27 _ := ⟨F27, h126, h127, b27⟩
  have F28 := fun_mk (st := sIIss) h133 h134 h135
  have b28 := F28.binds (ps := ["self"]) fun _ _ _ _ _ _ us hl => match us, hl with | [_], _ => rfl
  have D_Interval_is_single : Dm K CI "is_single" "Interval.is_single" sIIss ["self"] f28 _ := ⟨F28, h131, h132, b28⟩
  have F29 := fun_mk (st := sISing) h141 h142 h143
  have b29 := F29.binds (ps := ["cls", "number"]) fun _ _ _ _ _ _ us hl => match us, hl with | [_, _], _ => rfl
  have cr_D_Interval_single : ClX.CRead K CI (.type "type") := ⟨h136, h137⟩
  have cm_D_Interval_single : ClX.CMet K CI (.type "type") "single" p29 f29 := ⟨h138, ⟨_, h139⟩, h140⟩
  have F30 := fun_mk (st := sIEv) h147 h148 h149
  have b30 := F30.binds (ps := ["cls"]) fun _ _ _ _ _ _ us hl => match us, hl with | [_], _ => rfl
  have cr_D_Interval_everything : ClX.CRead K CI (.type "type") := ⟨h136, h137⟩
  have cm_D_Interval_everything : ClX.CMet K CI (.type "type") "everything" p30 f30 := ⟨h144, ⟨_, h145⟩, h146⟩
  have F31 := fun_mk (st := sIAr) h153 h154 h155
  have b31 := F31.binds (ps := ["cls", "number", "error"]) fun _ _ _ _ _ _ us hl => match us, hl with | [_, _, _], _ => rfl
  have cr_D_Interval_around : ClX.CRead K CI (.type "type") := ⟨h136, h137⟩
  have cm_D_Interval_around : ClX.CMet K CI (.type "type") "around" p31 f31 := ⟨h150, ⟨_, h151⟩, h152⟩
  have F32 := fun_mk (st := sWei) h157 h158 h159
  have b32 := F32.binds (ps := ["weights", "intervals"]) fun _ _ _ _ _ _ us hl => match us, hl with | [_, _], _ => rfl
  have D_weighted_interval : Df K mg "weighted_interval" sWei ["weights", "intervals"] _ _ := ⟨F32, PySem.W.mg_of X G h156, b32⟩
  have F33 := fun_mk (st := sTake) h161 h162 h163
  have b33 := F33.binds (ps := ["pool", "most"]) fun _ _ _ _ _ _ us hl => match us, hl with | [_, _], _ => rfl
  have D__law_take : Df K mg "_law_take" sTake ["pool", "most"] _ _ := ⟨F33, PySem.W.mg_of X G h160, b33⟩
  have F34 := fun_mk (st := sPool) h165 h166 h167
  have b34 := F34.binds (ps := ["script"]) fun _ _ _ _ _ _ us hl => match us, hl with | [_], _ => rfl
  have D__law_pool : Df K mg "_law_pool" sPool ["script"] _ _ := ⟨F34, PySem.W.mg_of X G h164, b34⟩
  have F35 := fun_mk (st := sInteger) h169 h170 h171
  have b35 := F35.binds (ps := ["thing"]) fun _ _ _ _ _ _ us hl => match us, hl with | [_], _ => rfl
  have D__law_integer : Df K mg "_law_integer" sInteger ["thing"] _ _ := ⟨F35, PySem.W.mg_of X G h168, b35⟩
  have F36 := fun_mk (st := sCommon) h173 h174 h175
  have b36 := F36.binds (ps := ["one", "two"]) fun _ _ _ _ _ _ us hl => match us, hl with | [_, _], _ => rfl
  have D__law_common : Df K mg "_law_common" sCommon ["one", "two"] _ _ := ⟨F36, PySem.W.mg_of X G h172, b36⟩
  have F37 := fun_mk (st := sLess) h177 h178 h179
  have b37 := F37.binds (ps := ["one", "two"]) fun _ _ _ _ _ _ us hl => match us, hl with | [_, _], _ => rfl
  have D__law_less : Df K mg "_law_less" sLess ["one", "two"] _ _ := ⟨F37, PySem.W.mg_of X G h176, b37⟩
  have F38 := fun_mk (st := sEqual) h181 h182 h183
  have b38 := F38.binds (ps := ["one", "two"]) fun _ _ _ _ _ _ us hl => match us, hl with | [_, _], _ => rfl
  have D__law_equal : Df K mg "_law_equal" sEqual ["one", "two"] _ _ := ⟨F38, PySem.W.mg_of X G h180, b38⟩
  have F39 := fun_mk (st := sLow) h185 h186 h187
  have b39 := F39.binds (ps := ["one"]) fun _ _ _ _ _ _ us hl => match us, hl with | [_], _ => rfl
  have D__law_low : Df K mg "_law_low" sLow ["one"] _ _ := ⟨F39, PySem.W.mg_of X G h184, b39⟩
  have F40 := fun_mk (st := sPlus) h189 h190 h191
  have b40 := F40.binds (ps := ["one", "two"]) fun _ _ _ _ _ _ us hl => match us, hl with | [_, _], _ => rfl
  have D__law_plus : Df K mg "_law_plus" sPlus ["one", "two"] _ _ := ⟨F40, PySem.W.mg_of X G h188, b40⟩
  have F41 := fun_mk (st := sPair) h193 h194 h195
  have b41 := F41.binds (ps := ["number"]) fun _ _ _ _ _ _ us hl => match us, hl with | [_], _ => rfl
  have D__law_pair : Df K mg "_law_pair" sPair ["number"] _ _ := ⟨F41, PySem.W.mg_of X G h192, b41⟩
  have F42 := fun_mk (st := sToldN) h197 h198 h199
  have b42 := F42.binds (ps := ["told", "due"]) fun _ _ _ _ _ _ us hl => match us, hl with | [_, _], _ => rfl
  have D__law_told_number : Df K mg "_law_told_number" sToldN ["told", "due"] _ _ := ⟨F42, PySem.W.mg_of X G h196, b42⟩
  have F43 := fun_mk (st := sIsEnd) h201 h202 h203
  have b43 := F43.binds (ps := ["told", "due"]) fun _ _ _ _ _ _ us hl => match us, hl with | [_, _], _ => rfl
  have D__law_is_end : Df K mg "_law_is_end" sIsEnd ["told", "due"] _ _ := ⟨F43, PySem.W.mg_of X G h200, b43⟩
  have F44 := fun_mk (st := sSameT) h205 h206 h207
  have b44 := F44.binds (ps := ["interval", "ends"]) fun _ _ _ _ _ _ us hl => match us, hl with | [_, _], _ => rfl
  have D__law_same_told : Df K mg "_law_same_told" sSameT ["interval", "ends"] _ _ := ⟨F44, PySem.W.mg_of X G h204, b44⟩
  have F45 := fun_mk (st := sCont) h209 h210 h211
  have b45 := F45.binds (ps := ["interval", "number"]) fun _ _ _ _ _ _ us hl => match us, hl with | [_, _], _ => rfl
  have D__law_contains : Df K mg "_law_contains" sCont ["interval", "number"] _ _ := ⟨F45, PySem.W.mg_of X G h208, b45⟩
  have F46 := fun_mk (st := sFlag) h213 h214 h215
  have b46 := F46.binds (ps := ["told", "due"]) fun _ _ _ _ _ _ us hl => match us, hl with | [_, _], _ => rfl
  have D__law_flag : Df K mg "_law_flag" sFlag ["told", "due"] _ _ := ⟨F46, PySem.W.mg_of X G h212, b46⟩
  have F47 := fun_mk (st := sSameE) h217 h218 h219
  have b47 := F47.binds (ps := ["one", "two"]) fun _ _ _ _ _ _ us hl => match us, hl with | [_, _], _ => rfl
  have D__law_same_end : Df K mg "_law_same_end" sSameE ["one", "two"] _ _ := ⟨F47, PySem.W.mg_of X G h216, b47⟩
  have F48 := fun_mk (st := sSameS) h221 h222 h223
  have b48 := F48.binds (ps := ["one", "two"]) fun _ _ _ _ _ _ us hl => match us, hl with | [_, _], _ => rfl
  have D__law_same_ends : Df K mg "_law_same_ends" sSameS ["one", "two"] _ _ := ⟨F48, PySem.W.mg_of X G h220, b48⟩
  have F49 := fun_mk (st := sBy) h225 h226 h227
  have b49 := F49.binds (ps := ["one", "two"]) fun _ _ _ _ _ _ us hl => match us, hl with | [_, _], _ => rfl
  have D__law_by : Df K mg "_law_by" sBy ["one", "two"] _ _ := ⟨F49, PySem.W.mg_of X G h224, b49⟩
  have F50 := fun_mk (st := sStr) h229 h230 h231
  have b50 := F50.binds (ps := ["interval", "number"]) fun _ _ _ _ _ _ us hl => match us, hl with | [_, _], _ => rfl
  have D__law_stretched : Df K mg "_law_stretched" sStr ["interval", "number"] _ _ := ⟨F50, PySem.W.mg_of X G h228, b50⟩
  have F51 := fun_mk (st := sJoin) h233 h234 h235
  have b51 := F51.binds (ps := ["one", "two"]) fun _ _ _ _ _ _ us hl => match us, hl with | [_, _], _ => rfl
  have D__law_joined : Df K mg "_law_joined" sJoin ["one", "two"] _ _ := ⟨F51, PySem.W.mg_of X G h232, b51⟩
  have F52 := fun_mk (st := sTot) h237 h238 h239
  have b52 := F52.binds (ps := ["weights", "intervals"]) fun _ _ _ _ _ _ us hl => match us, hl with | [_, _], _ => rfl
  have D__law_total : Df K mg "_law_total" sTot ["weights", "intervals"] _ _ := ⟨F52, PySem.W.mg_of X G h236, b52⟩
  have F53 := fun_mk (st := sGiv) h241 h242 h243
  have b53 := F53.binds (ps := ["end"]) fun _ _ _ _ _ _ us hl => match us, hl with | [_], _ => rfl
  have D__law_given_end : Df K mg "_law_given_end" sGiv ["end"] _ _ := ⟨F53, PySem.W.mg_of X G h240, b53⟩
  have F54 := fun_mk (st := sIvl) h245 h246 h247
  have b54 := F54.binds (ps := ["ends"]) fun _ _ _ _ _ _ us hl => match us, hl with | [_], _ => rfl
  have D__law_interval : Df K mg "_law_interval" sIvl ["ends"] _ _ := ⟨F54, PySem.W.mg_of X G h244, b54⟩
  have F55 := fun_mk (st := sOrd) h249 h250 h251
  have b55 := F55.binds (ps := ["low", "high"]) fun _ _ _ _ _ _ us hl => match us, hl with | [_, _], _ => rfl
  have D__law_ordered : Df K mg "_law_ordered" sOrd ["low", "high"] _ _ := ⟨F55, PySem.W.mg_of X G h248, b55⟩
  have F56 := fun_mk (st := sWide) h253 h254 h255
  have b56 := F56.binds (ps := ["pool"]) fun _ _ _ _ _ _ us hl => match us, hl with | [_], _ => rfl
  have D__law_wide_number : Df K mg "_law_wide_number" sWide ["pool"] _ _ := ⟨F56, PySem.W.mg_of X G h252, b56⟩
  have F57 := fun_mk (st := sFar) h257 h258 h259
  have b57 := F57.binds (ps := ["pool"]) fun _ _ _ _ _ _ us hl => match us, hl with | [_], _ => rfl
  have D__law_far_end : Df K mg "_law_far_end" sFar ["pool"] _ _ := ⟨F57, PySem.W.mg_of X G h256, b57⟩
  have F58 := fun_mk (st := sSecond) h261 h262 h263
  have b58 := F58.binds (ps := ["pool", "one"]) fun _ _ _ _ _ _ us hl => match us, hl with | [_, _], _ => rfl
  have D__law_second : Df K mg "_law_second" sSecond ["pool", "one"] _ _ := ⟨F58, PySem.W.mg_of X G h260, b58⟩
  have F59 := fun_mk (st := sBeside) h265 h266 h267
  have b59 := F59.binds (ps := ["pool", "one"]) fun _ _ _ _ _ _ us hl => match us, hl with | [_, _], _ => rfl
  have D__law_beside : Df K mg "_law_beside" sBeside ["pool", "one"] _ _ := ⟨F59, PySem.W.mg_of X G h264, b59⟩
  have F60 := fun_mk (st := sFactor) h269 h270 h271
  have b60 := F60.binds (ps := ["pool"]) fun _ _ _ _ _ _ us hl => match us, hl with | [_], _ => rfl
  have D__law_factor : Df K mg "_law_factor" sFactor ["pool"] _ _ := ⟨F60, PySem.W.mg_of X G h268, b60⟩
  have F61 := fun_mk (st := sComE) h273 h274 h275
  have b61 := F61.binds (ps := ["one", "two"]) fun _ _ _ _ _ _ us hl => match us, hl with | [_, _], _ => rfl
  have D__law_common_ends : Df K mg "_law_common_ends" sComE ["one", "two"] _ _ := ⟨F61, PySem.W.mg_of X G h272, b61⟩
  have F62 := fun_mk (st := sNea) h277 h278 h279
  have b62 := F62.binds (ps := ["ends", "number"]) fun _ _ _ _ _ _ us hl => match us, hl with | [_, _], _ => rfl
  have D__law_nearest : Df K mg "_law_nearest" sNea ["ends", "number"] _ _ := ⟨F62, PySem.W.mg_of X G h276, b62⟩
  have F63 := fun_mk (st := sMet) h281 h282 h283
  have b63 := F63.binds (ps := ["first", "second", "one", "two"]) fun _ _ _ _ _ _ us hl => match us, hl with | [_, _, _, _], _ => rfl
  have D__law_met : Df K mg "_law_met" sMet ["first", "second", "one", "two"] _ _ := ⟨F63, PySem.W.mg_of X G h280, b63⟩
  have F64 := fun_mk (st := sAsk) h285 h286 h287
  have b64 := F64.binds (ps := ["first", "one", "number"]) fun _ _ _ _ _ _ us hl => match us, hl with | [_, _, _], _ => rfl
  have D__law_asked : Df K mg "_law_asked" sAsk ["first", "one", "number"] _ _ := ⟨F64, PySem.W.mg_of X G h284, b64⟩
  have F65 := fun_mk (st := sSums) h289 h290 h291
  have b65 := F65.binds (ps := ["first", "second", "one", "two", "factor", "whole"]) fun _ _ _ _ _ _ us hl => match us, hl with | [_, _, _, _, _, _], _ => rfl
  have D__law_sums : Df K mg "_law_sums" sSums ["first", "second", "one", "two", "factor", "whole"] _ _ := ⟨F65, PySem.W.mg_of X G h288, b65⟩
  have F66 := fun_mk (st := sEmp) h293 h294 h295
  have b66 := F66.binds (ps := ["low", "high"]) fun _ _ _ _ _ _ us hl => match us, hl with | [_, _], _ => rfl
  have D__law_empty : Df K mg "_law_empty" sEmp ["low", "high"] _ _ := ⟨F66, PySem.W.mg_of X G h292, b66⟩
  have F67 := fun_mk (st := sAro) h297 h298 h299
  have b67 := F67.binds (ps := ["number", "error"]) fun _ _ _ _ _ _ us hl => match us, hl with | [_, _], _ => rfl
  have D__law_around : Df K mg "_law_around" sAro ["number", "error"] _ _ := ⟨F67, PySem.W.mg_of X G h296, b67⟩
  have F68 := fun_mk (st := sWgh) h301 h302 h303
  have b68 := F68.binds (ps := ["first", "second", "one", "two", "factor", "whole"]) fun _ _ _ _ _ _ us hl => match us, hl with | [_, _, _, _, _, _], _ => rfl
  have D__law_weighed : Df K mg "_law_weighed" sWgh ["first", "second", "one", "two", "factor", "whole"] _ _ := ⟨F68, PySem.W.mg_of X G h300, b68⟩
  have F69 := fun_mk (st := sLaw) h305 h306 h307
  have b69 := F69.binds (ps := ["script"]) fun _ _ _ _ _ _ us hl => match us, hl with | [_], _ => rfl
  have D_law : Df K mg "law" sLaw ["script"] _ _ := ⟨F69, PySem.W.mg_of X G h304, b69⟩
  have B : Bl mg := ⟨(PySem.W.mg_none_of X G h308), (PySem.W.mg_none_of X G h309), (PySem.W.mg_none_of X G h310), (PySem.W.mg_none_of X G h311), (PySem.W.mg_none_of X G h312), (PySem.W.mg_none_of X G h313), (PySem.W.mg_none_of X G h314), (PySem.W.mg_none_of X G h315), (PySem.W.mg_none_of X G h316), (PySem.W.mg_none_of X G h317), (PySem.W.mg_none_of X G h318)⟩
  have tR : RatT K mg C := ⟨(PySem.W.mg_of X G h319), ⟨h320, h321, h322, h323⟩, h324, h325, (PySem.W.mg_of X G h326), ⟨⟨h320, h321, h322, h323⟩, h327, h328, h329, h330⟩, h331, h332, h333, h334, h335, h336, h337, h338, h339, h340, h341, ⟨_, h342⟩, ⟨_, h343⟩, ⟨_, h344⟩, ⟨_, h345⟩, ⟨_, h346⟩, ⟨_, h347⟩⟩
  have tI : IvT K mg C CI := ⟨(PySem.W.mg_of X G h348), ⟨h349, h350, h351, h352⟩, h353, h354, ⟨⟨h349, h350, h351, h352⟩, h355, h328, h329, h356⟩, h357, h358, h359, h360, h361, h362, h363, h364, h365, h366, h367, h368, h369, h370, h371, h372, h373, h374, h375, h376⟩
  have tE : EmT K mg Z := ⟨(PySem.W.mg_of X G h377), h378, h379, h380, h381⟩
  have tW : WcT K mg Y := ⟨(PySem.W.mg_of X G h382), h383, h384, h385, h386⟩
  have tX : ErT K mg Z Y S := ⟨(PySem.W.mg_of X G h377), (PySem.W.mg_of X G h382), (PySem.W.mg_of X G h387), (PySem.W.mg_none_of X G h388), ⟨h389, h390, h380, h391, h392, h328, h329, h393⟩, ⟨h394, h395, h385, h396, h397, h328, h329, h398⟩, h399, h400, h401, h402, h403, h404, h405, h406, h407⟩
  refine ⟨PySem.W.fnOf "law" "law" (defArgs sLaw) (defBody sLaw) (defScope sLaw) .none kV69 dc69 pm69 an69 cd69 ct69, fun s v => .of_eq rfl, fun base _ _ => ?_⟩
  have FI0 : FunD K "__init__" "Ratio.__init__" (defArgs sInit) (defBody sInit) (defScope sInit) [V.int 1] [] f1 _ := ⟨⟨_, _, _, _, _, _, _, _, _, _, rfl, h2, h3, .inr ⟨by simp, TT, _, [Value.int 1 tk], _, rfl, lT, dT, .cons ⟨tk, rfl⟩ .nil⟩, .inl rfl⟩, h4⟩
  have FI1 : FI K sInit f1 _ := .inr ⟨_, _, FI0⟩
  obtain ⟨us2, v2, bI2⟩ := FI0.binds1 (ps := ["self", "top", "bottom"]) 3 1 (by simp) rfl fun T kV doc pm an cdv ct us its hl hi => match us, its, hl, hi with | [_, _, _], [_], _, _ => ⟨_, rfl, rfl⟩
  obtain ⟨us1, v1, bI1⟩ := FI0.binds1 (ps := ["self", "top", "bottom"]) 2 0 (by simp) rfl fun T kV doc pm an cdv ct us its hl hi => match us, its, hl, hi with | [_, _], [_], _, _ => ⟨_, rfl, rfl⟩
  have MK_C : Mk K C f1 := ⟨h408, h0, h1, h409⟩
  have MI : IOk l.prog w K mg base CX0 C 1 [] (spI K C ["top", "bottom"] preI postI) := ⟨_, _, _, _, _, MK_C, ok_init FI1 B tR, bI2, v2, fun _ => Reps.nil⟩
  have MI1 : IOk l.prog w K mg base CX0 C 1 [.int 1] (spI K C ["top", "bottom"] preI postI) := ⟨_, _, _, _, _, MK_C, ok_init FI1 B tR, bI1, v1, fun _ => Reps.cons (by simp only [Rep]) Reps.nil⟩
  have RB : RatB l.prog w K mg base C := ⟨B, tR, MI⟩
  have MAdd := D_Ratio___add__.ok (ok_add (P := l.prog) (w := w) (base := base)  (F := D_Ratio___add__) (RB := RB))
  have MSub := D_Ratio___sub__.ok (ok_sub (P := l.prog) (w := w) (base := base)  (F := D_Ratio___sub__) (RB := RB))
  have MMul := D_Ratio___mul__.ok (ok_mul (P := l.prog) (w := w) (base := base)  (F := D_Ratio___mul__) (RB := RB))
  have MNeg := D_Ratio___neg__.ok (ok_neg (P := l.prog) (w := w) (base := base)  (F := D_Ratio___neg__) (RB := RB))
  have MRmul := D_Ratio___rmul__.ok (ok_rmul (P := l.prog) (w := w) (base := base)  (F := D_Ratio___rmul__) (RB := RB) (MMul := MMul))
  have MBool := D_Ratio___bool__.ok (ok_bool (P := l.prog) (w := w) (base := base)  (F := D_Ratio___bool__) (B := B) (tR := tR))
  have MSign := D_Ratio_sign.ok (ok_sign (P := l.prog) (w := w) (base := base)  (F := D_Ratio_sign) (B := B) (tR := tR))
  have MEqN := D_Ratio___eq__.ok (ok_eqN (P := l.prog) (w := w) (base := base)  (F := D_Ratio___eq__) (B := B) (tR := tR) (tI := tI))
  have GCompare := D_compare.ok (ok_compare (P := l.prog) (w := w) (base := base)  (F := D_compare) (RB := RB) (MSub := MSub) (MSign := MSign))
  have GBey := D_is_beyond.ok (ok_bey (P := l.prog) (w := w) (base := base)  (F := D_is_beyond) (GCompare := GCompare))
  have GLar := D_larger_low.ok (ok_lar (P := l.prog) (w := w) (base := base)  (F := D_larger_low) (GCompare := GCompare))
  have GSma := D_smaller_high.ok (ok_sma (P := l.prog) (w := w) (base := base)  (F := D_smaller_high) (GCompare := GCompare))
  have GSum := D_sum_of_ends.ok (ok_soe (P := l.prog) (w := w) (base := base)  (F := D_sum_of_ends) (tR := tR) (MAdd := MAdd))
  have GMul := D_multiple_of_end.ok (ok_moe (P := l.prog) (w := w) (base := base)  (F := D_multiple_of_end) (tR := tR) (MMul := MMul))
  have o_MV := ok_iinit (P := l.prog) (w := w) (base := base)  (F := F19) (tI := tI) (GBey := GBey)
  have MV : IOk l.prog w K mg base _ CI _ [] _ := ⟨_, _, _, [], [], MK_CI, o_MV, b19, .nil, fun _ => Reps.nil⟩
  have o_MVX := ok_iinitX (P := l.prog) (w := w) (base := base)  (F := F19) (tI := tI) (tE := tE) (GBey := GBey)
  have MVX : IOk l.prog w K mg base _ CI _ [] _ := ⟨_, _, _, [], [], MK_CI, o_MVX, b19, .nil, fun _ => Reps.nil⟩
  have MCon := D_Interval___contains__.ok (ok_icon (P := l.prog) (w := w) (base := base)  (F := D_Interval___contains__) (tI := tI) (GBey := GBey))
  have MIEq := D_Interval___eq__.ok (ok_ieq (P := l.prog) (w := w) (base := base)  (F := D_Interval___eq__) (B := B) (tR := tR) (tI := tI) (MEqN := MEqN))
  have IB : IvB l.prog w K mg base C CI := ⟨B, tR, tI, MI, MI1, MAdd, MSub, MMul, MRmul, MSign, MBool, MEqN, GBey, GLar, GSma, GSum, GMul, MV⟩
  have MIAdd := D_Interval___add__.ok (ok_iadd (P := l.prog) (w := w) (base := base)  (F := D_Interval___add__) (IB := IB))
  have MIMul := D_Interval___mul__.ok (ok_imul (P := l.prog) (w := w) (base := base)  (F := D_Interval___mul__) (IB := IB))
  have MIR := D_Interval___rmul__.ok (ok_irmul (P := l.prog) (w := w) (base := base)  (F := D_Interval___rmul__) (IB := IB) (MIMul := MIMul))
  have MINeg := D_Interval___neg__.ok (ok_ineg (P := l.prog) (w := w) (base := base)  (F := D_Interval___neg__) (IB := IB) (MIMul := MIMul) (MIR := MIR))
  have MCommon := D_Interval_common.ok (ok_icom (P := l.prog) (w := w) (base := base)  (F := D_Interval_common) (IB := IB))
  have MNear := D_Interval_nearest.ok (ok_inear (P := l.prog) (w := w) (base := base)  (F := D_Interval_nearest) (IB := IB))
  have MIsS := D_Interval_is_single.ok (ok_iiss (P := l.prog) (w := w) (base := base)  (F := D_Interval_is_single) (IB := IB))
  have o_CSing := ok_ising (P := l.prog) (w := w) (base := base)  (F := F29) (IB := IB)
  have CSing : COk l.prog w K mg base _ CI "single" _ _ := ⟨_, _, _, _, _, cr_D_Interval_single, cm_D_Interval_single, o_CSing, b29⟩
  have o_CEv := ok_iev (P := l.prog) (w := w) (base := base)  (F := F30) (IB := IB)
  have CEv : COk l.prog w K mg base _ CI "everything" _ _ := ⟨_, _, _, _, _, cr_D_Interval_everything, cm_D_Interval_everything, o_CEv, b30⟩
  have o_CAr := ok_iar (P := l.prog) (w := w) (base := base)  (F := F31) (IB := IB)
  have CAr : COk l.prog w K mg base _ CI "around" _ _ := ⟨_, _, _, _, _, cr_D_Interval_around, cm_D_Interval_around, o_CAr, b31⟩
  have o_CArX := ok_iarX (P := l.prog) (w := w) (base := base)  (F := F31) (IB := IB) (MVX := MVX)
  have CArX : COk l.prog w K mg base _ CI "around" _ _ := ⟨_, _, _, _, _, cr_D_Interval_around, cm_D_Interval_around, o_CArX, b31⟩
  have NMul : NOk l.prog w K mg base C "__mul__" _ _ := ⟨_, _, _, D_Ratio___mul__.at_, D_Ratio___mul__.isf, ok_rmulNI (P := l.prog) (w := w) (base := base)  (F := D_Ratio___mul__) (B := B) (tR := tR) (tI := tI), D_Ratio___mul__.bd, (fun ds h => by obtain ⟨_, _, _, _, rfl⟩ := h; rfl)⟩
  have GWei := D_weighted_interval.ok (ok_weiL (P := l.prog) (w := w) (base := base)  (F := D_weighted_interval) (IB := IB) (CSing := CSing) (MIMul := MIMul) (MIR := MIR) (MIAdd := MIAdd))
  have GWeiT := D_weighted_interval.ok (ok_weiT (P := l.prog) (w := w) (base := base)  (F := D_weighted_interval) (IB := IB) (CSing := CSing) (MIMul := MIMul) (MIR := MIR) (MIAdd := MIAdd))
  have GWeiX := D_weighted_interval.ok (ok_weiX (P := l.prog) (w := w) (base := base)  (F := D_weighted_interval) (B := B) (tW := tW))
  have GTake := D__law_take.ok (ok_take (P := l.prog) (w := w) (base := base)  (F := F33) (B := B))
  have GPool := D__law_pool.ok (ok_pool (P := l.prog) (w := w) (base := base)  (F := D__law_pool) (B := B))
  have GInt := D__law_integer.ok (ok_integer (P := l.prog) (w := w) (base := base)  (F := D__law_integer) (B := B) (tR := tR))
  have GCom := D__law_common.ok (ok_common (P := l.prog) (w := w) (base := base)  (F := D__law_common) (B := B))
  have GLess := D__law_less.ok (ok_less (P := l.prog) (w := w) (base := base)  (F := D__law_less))
  have GEqual := D__law_equal.ok (ok_equal (P := l.prog) (w := w) (base := base)  (F := D__law_equal))
  have GLow := D__law_low.ok (ok_low (P := l.prog) (w := w) (base := base)  (F := D__law_low) (GCom := GCom))
  have GPlus := D__law_plus.ok (ok_plus (P := l.prog) (w := w) (base := base)  (F := D__law_plus))
  have GPair := D__law_pair.ok (ok_pair (P := l.prog) (w := w) (base := base)  (F := D__law_pair) (B := B) (tR := tR) (GInt := GInt))
  have GTold := D__law_told_number.ok (ok_toldn (P := l.prog) (w := w) (base := base)  (F := D__law_told_number) (GPair := GPair) (GEqual := GEqual))
  have GIsEnd := D__law_is_end.ok (ok_isend (P := l.prog) (w := w) (base := base)  (F := D__law_is_end) (GTold := GTold))
  have GSameT := D__law_same_told.ok (ok_samet (P := l.prog) (w := w) (base := base)  (F := D__law_same_told) (B := B) (tI := tI) (GIsEnd := GIsEnd))
  have GCont := D__law_contains.ok (ok_cont (P := l.prog) (w := w) (base := base)  (F := D__law_contains) (GLess := GLess))
  have GFlag := D__law_flag.ok (ok_flag (P := l.prog) (w := w) (base := base)  (F := D__law_flag) (B := B) (tI := tI))
  have GSameE := D__law_same_end.ok (ok_samee (P := l.prog) (w := w) (base := base)  (F := D__law_same_end) (GEqual := GEqual))
  have GSameS := D__law_same_ends.ok (ok_sames (P := l.prog) (w := w) (base := base)  (F := D__law_same_ends) (GSameE := GSameE))
  have GBy := D__law_by.ok (ok_by (P := l.prog) (w := w) (base := base)  (F := D__law_by))
  have GStr := D__law_stretched.ok (ok_str (P := l.prog) (w := w) (base := base)  (F := D__law_stretched) (GLow := GLow) (GBy := GBy))
  have GJoin := D__law_joined.ok (ok_join (P := l.prog) (w := w) (base := base)  (F := D__law_joined) (GLow := GLow) (GPlus := GPlus))
  have GTot := D__law_total.ok (ok_tot (P := l.prog) (w := w) (base := base)  (F := D__law_total) (B := B) (GStr := GStr) (GJoin := GJoin))
  have GGiv := D__law_given_end.ok (ok_giv (P := l.prog) (w := w) (base := base)  (F := D__law_given_end) (tR := tR) (MI := MI))
  have GIvl := D__law_interval.ok (ok_ivl (P := l.prog) (w := w) (base := base)  (F := D__law_interval) (tI := tI) (MV := MV) (GGiv := GGiv))
  have GOrd := D__law_ordered.ok (ok_ord (P := l.prog) (w := w) (base := base)  (F := D__law_ordered) (GLess := GLess))
  have GWide := D__law_wide_number.ok (ok_wide (P := l.prog) (w := w) (base := base)  (F := D__law_wide_number) (B := B) (GTake := GTake))
  have GFar := D__law_far_end.ok (ok_far (P := l.prog) (w := w) (base := base)  (F := D__law_far_end) (B := B) (GTake := GTake) (GWide := GWide) (GLow := GLow))
  have GSec := D__law_second.ok (ok_second (P := l.prog) (w := w) (base := base)  (F := D__law_second) (GTake := GTake) (GLow := GLow) (GPlus := GPlus) (GFar := GFar) (GOrd := GOrd))
  have GBes := D__law_beside.ok (ok_beside (P := l.prog) (w := w) (base := base)  (F := D__law_beside) (GTake := GTake) (GLow := GLow) (GPlus := GPlus))
  have GFac := D__law_factor.ok (ok_factor (P := l.prog) (w := w) (base := base)  (F := D__law_factor) (GTake := GTake) (GWide := GWide) (GLow := GLow))
  have GComE := D__law_common_ends.ok (ok_come (P := l.prog) (w := w) (base := base)  (F := D__law_common_ends) (GLess := GLess))
  have GNea := D__law_nearest.ok (ok_nea (P := l.prog) (w := w) (base := base)  (F := D__law_nearest) (GLess := GLess))
  have GMet := D__law_met.ok (ok_met (P := l.prog) (w := w) (base := base)  (F := D__law_met) (tI := tI) (GComE := GComE) (GSameT := GSameT) (MCommon := MCommon) (CEv := CEv))
  have GAsk := D__law_asked.ok (ok_ask (P := l.prog) (w := w) (base := base)  (F := D__law_asked) (tR := tR) (tI := tI) (MI := MI) (MCon := MCon) (MNear := MNear) (MIsS := MIsS) (GCont := GCont) (GPair := GPair) (GEqual := GEqual) (GNea := GNea) (GPlus := GPlus) (GFlag := GFlag) (GSameE := GSameE))
  have GSums := D__law_sums.ok (ok_sums (P := l.prog) (w := w) (base := base) (kr := 0) (spr := fun _ _ _ _ => True) (F := D__law_sums) (tR := tR) (tI := tI) (MI := MI) (MMul := MMul) (MRmul := MRmul) (NMul := NMul) (MIAdd := MIAdd) (MIMul := MIMul) (MIR := MIR) (MINeg := MINeg) (GTot := GTot) (GStr := GStr) (GSameT := GSameT))
  have GEmp := D__law_empty.ok (ok_emp (P := l.prog) (w := w) (base := base)  (F := D__law_empty) (B := B) (tR := tR) (tI := tI) (tX := tX) (MI := MI) (MVX := MVX))
  have GAro := D__law_around.ok (ok_aro (P := l.prog) (w := w) (base := base)  (F := D__law_around) (B := B) (tR := tR) (tI := tI) (tX := tX) (GLow := GLow) (GPlus := GPlus) (GSameT := GSameT) (MI := MI) (CAr := CAr) (CArX := CArX) (CSing := CSing))
  have GWgh := D__law_weighed.ok (ok_wgh (P := l.prog) (w := w) (base := base)  (F := D__law_weighed) (B := B) (tR := tR) (tX := tX) (MI := MI) (MI1 := MI1) (GWei := GWei) (GWeiT := GWeiT) (GWeiX := GWeiX) (GTot := GTot) (GStr := GStr) (GSameT := GSameT))
  have LH : LawI l.prog w K mg base C CI := ⟨GPool, GTake, GFar, GOrd, GSec, GBes, GFac, GLow, GPlus, GIvl, GSameT, GSameS, GMet, GAsk, GSums, GWgh, GAro, GEmp, MIEq, CEv⟩
  exact ok_law (P := l.prog) (w := w) (base := base)  (F := D_law) (B := B) (tR := tR) (tI := tI) (MI := MI) (MV := MV) (LH := LH)
end Toy
namespace Toy
open PySem PySem.Spec PyProof.Rows L2 DL
theorem walk {l : PySem.W.OpenLaw} {q : Program} {loose : List Str} {XP : (Str → Option Value) → Heap → Prop} {YP : World → Heap → Prop} {d : DefRec} {K : Params → PySem.W.Frag} (hn : l.most = some 63) (hdf : d.params.defaults = [])
    (hY : ∀ (w : World) (h : Heap), YP w h → (K w.params).In h)
    (F : ∀ (w : World) (mg : Str → Option Value) (fa : Addr) (h : Heap), (K w.params).In h → h.Ns mainGlobals mg → mg d.name = some (.ref fa) →
      ∃ fd : FuncData, (∀ (s : Shared) (u : Value), BindsTo s fd ⟨[u], []⟩ [("script", u)]) ∧ ∀ base : Heap, (K w.params).In base → base.Ns mainGlobals mg → FnOk l.prog w (K w.params) mg base CX0 12 fa fd ["script"] (spF (K w.params) preP (fun _ r => r = .bl true))) :
    PySem.W.WalkO q loose XP YP l.row.toRowW d [] (fun f vs => PySem.call f vs) :=
  L2.walk_of (n := 63) (k := 12) (x := "script") (CX := fun _ => CX0) (sp := fun w => spF (K w.params) preP (fun _ r => r = .bl true)) hn (by decide) hdf ⟨rfl, by decide, by decide⟩ hY F (fun w H a ns hl _ hS => ⟨[], [.rol (ns.map D.int)], fun b hb => absurd hb (by simp), Reps.cons (by simp only [Rep]; exact ⟨a, _, rfl, by rw [show msk [] H = H from funext fun b => rfl]; exact hS, Reps.ofInts⟩) Reps.nil, ⟨ns, rfl, hl⟩, fun v H' d _ rd pd => by
    cases pd
    simpa only [Rep] using rd⟩) fun _ _ _ _ _ z => z
end Toy
open PySem PySem.W PyProof.Rows
set_option maxRecDepth 100000 in
set_option maxHeartbeats 0 in
theorem PySem.Challenge.cw_heightsfitted_k20_intervals_hold_numbers_holds : PySem.Challenge.rw_heightsfitted_k20_intervals_hold_numbers.Holds := by
  w_on; o_law; k_head; (case hw => w_witness2)
  k_fill
  refine Toy.walk (l := PySem.Challenge.rw_heightsfitted_k20_intervals_hold_numbers) rfl rfl (fun w h Y => PySem.W.kIn_of Y) ?F
  case F =>
    intro w mg fa h KX G hmg
    refine' Toy.all_mk KX G hmg ?h60 ?h64 ?h68 ?h72 ?h76 ?h80 ?h156 ?h160 ?h164 ?h168 ?h172 ?h176 ?h180 ?h184 ?h188 ?h192 ?h196 ?h200 ?h204 ?h208 ?h212 ?h216 ?h220 ?h224 ?h228 ?h232 ?h236 ?h240 ?h244 ?h248 ?h252 ?h256 ?h260 ?h264 ?h268 ?h272 ?h276 ?h280 ?h284 ?h288 ?h292 ?h296 ?h300 ?h304 ?h308 ?h309 ?h310 ?h311 ?h312 ?h313 ?h314 ?h315 ?h316 ?h317 ?h318 ?h319 ?h326 ?h348 ?h377 ?h382 ?h387 ?h388 ?h0 ?h5 ?h10 ?h15 ?h20 ?h25 ?h30 ?h35 ?h40 ?h45 ?h50 ?h55 ?h84 ?h91 ?h96 ?h101 ?h106 ?h111 ?h116 ?h121 ?h126 ?h131 ?h138 ?h144 ?h150 ?h139 ?h145 ?h151 ?h2 ?h7 ?h12 ?h17 ?h22 ?h27 ?h32 ?h37 ?h42 ?h47 ?h52 ?h57 ?h61 ?h65 ?h69 ?h73 ?h77 ?h81 ?h86 ?h93 ?h98 ?h103 ?h108 ?h113 ?h118 ?h123 ?h128 ?h133 ?h141 ?h147 ?h153 ?h157 ?h161 ?h165 ?h169 ?h173 ?h177 ?h181 ?h185 ?h189 ?h193 ?h197 ?h201 ?h205 ?h209 ?h213 ?h217 ?h221 ?h225 ?h229 ?h233 ?h237 ?h241 ?h245 ?h249 ?h253 ?h257 ?h261 ?h265 ?h269 ?h273 ?h277 ?h281 ?h285 ?h289 ?h293 ?h297 ?h301 ?h305 ?h3 ?h8 ?h13 ?h18 ?h23 ?h28 ?h33 ?h38 ?h43 ?h48 ?h53 ?h58 ?h62 ?h66 ?h70 ?h74 ?h78 ?h82 ?h87 ?h94 ?h99 ?h104 ?h109 ?h114 ?h119 ?h124 ?h129 ?h134 ?h142 ?h148 ?h154 ?h158 ?h162 ?h166 ?h170 ?h174 ?h178 ?h182 ?h186 ?h190 ?h194 ?h198 ?h202 ?h206 ?h210 ?h214 ?h218 ?h222 ?h226 ?h230 ?h234 ?h238 ?h242 ?h246 ?h250 ?h254 ?h258 ?h262 ?h266 ?h270 ?h274 ?h278 ?h282 ?h286 ?h290 ?h294 ?h298 ?h302 ?h306 ?h1 ?h4 ?h6 ?h9 ?h11 ?h14 ?h16 ?h19 ?h21 ?h24 ?h26 ?h29 ?h31 ?h34 ?h36 ?h39 ?h41 ?h44 ?h46 ?h49 ?h51 ?h54 ?h56 ?h59 ?h63 ?h67 ?h71 ?h75 ?h79 ?h83 ?h85 ?h88 ?h89 ?h90 ?h92 ?h95 ?h97 ?h100 ?h102 ?h105 ?h107 ?h110 ?h112 ?h115 ?h117 ?h120 ?h122 ?h125 ?h127 ?h130 ?h132 ?h135 ?h136 ?h137 ?h140 ?h143 ?h146 ?h149 ?h152 ?h155 ?h159 ?h163 ?h167 ?h171 ?h175 ?h179 ?h183 ?h187 ?h191 ?h195 ?h199 ?h203 ?h207 ?h211 ?h215 ?h219 ?h223 ?h227 ?h231 ?h235 ?h239 ?h243 ?h247 ?h251 ?h255 ?h259 ?h263 ?h267 ?h271 ?h275 ?h279 ?h283 ?h287 ?h291 ?h295 ?h299 ?h303 ?h307 ?h320 ?h321 ?h322 ?h323 ?h324 ?h325 ?h327 ?h328 ?h329 ?h330 ?h331 ?h332 ?h333 ?h334 ?h335 ?h336 ?h337 ?h338 ?h339 ?h340 ?h341 ?h342 ?h343 ?h344 ?h345 ?h346 ?h347 ?h349 ?h350 ?h351 ?h352 ?h353 ?h354 ?h355 ?h356 ?h357 ?h359 ?h360 ?h361 ?h362 ?h363 ?h364 ?h365 ?h366 ?h367 ?h368 ?h369 ?h370 ?h371 ?h372 ?h373 ?h374 ?h375 ?h376 ?h378 ?h380 ?h381 ?h383 ?h385 ?h386 ?h389 ?h390 ?h391 ?h392 ?h393 ?h394 ?h395 ?h396 ?h397 ?h398 ?h399 ?h400 ?h401 ?h402 ?h403 ?h404 ?h405 ?h406 ?h407 ?h408 ?h409 ?h358 ?h379 ?h384 ?lT ?dT
    (case h60 => first | k_is | k_exc | rfl | decide +kernel)
    (case h64 => first | k_is | k_exc | rfl | decide +kernel)
    (case h68 => first | k_is | k_exc | rfl | decide +kernel)
    (case h72 => first | k_is | k_exc | rfl | decide +kernel)
    (case h76 => first | k_is | k_exc | rfl | decide +kernel)
    (case h80 => first | k_is | k_exc | rfl | decide +kernel)
    (case h156 => first | k_is | k_exc | rfl | decide +kernel)
    (case h160 => first | k_is | k_exc | rfl | decide +kernel)
    (case h164 => first | k_is | k_exc | rfl | decide +kernel)
    (case h168 => first | k_is | k_exc | rfl | decide +kernel)
    (case h172 => first | k_is | k_exc | rfl | decide +kernel)
    (case h176 => first | k_is | k_exc | rfl | decide +kernel)
    (case h180 => first | k_is | k_exc | rfl | decide +kernel)
    (case h184 => first | k_is | k_exc | rfl | decide +kernel)
    (case h188 => first | k_is | k_exc | rfl | decide +kernel)
    (case h192 => first | k_is | k_exc | rfl | decide +kernel)
    (case h196 => first | k_is | k_exc | rfl | decide +kernel)
    (case h200 => first | k_is | k_exc | rfl | decide +kernel)
    (case h204 => first | k_is | k_exc | rfl | decide +kernel)
    (case h208 => first | k_is | k_exc | rfl | decide +kernel)
    (case h212 => first | k_is | k_exc | rfl | decide +kernel)
    (case h216 => first | k_is | k_exc | rfl | decide +kernel)
    (case h220 => first | k_is | k_exc | rfl | decide +kernel)
    (case h224 => first | k_is | k_exc | rfl | decide +kernel)
    (case h228 => first | k_is | k_exc | rfl | decide +kernel)
    (case h232 => first | k_is | k_exc | rfl | decide +kernel)
    (case h236 => first | k_is | k_exc | rfl | decide +kernel)
    (case h240 => first | k_is | k_exc | rfl | decide +kernel)
    (case h244 => first | k_is | k_exc | rfl | decide +kernel)
    (case h248 => first | k_is | k_exc | rfl | decide +kernel)
    (case h252 => first | k_is | k_exc | rfl | decide +kernel)
    (case h256 => first | k_is | k_exc | rfl | decide +kernel)
    (case h260 => first | k_is | k_exc | rfl | decide +kernel)
    (case h264 => first | k_is | k_exc | rfl | decide +kernel)
    (case h268 => first | k_is | k_exc | rfl | decide +kernel)
    (case h272 => first | k_is | k_exc | rfl | decide +kernel)
    (case h276 => first | k_is | k_exc | rfl | decide +kernel)
    (case h280 => first | k_is | k_exc | rfl | decide +kernel)
    (case h284 => first | k_is | k_exc | rfl | decide +kernel)
    (case h288 => first | k_is | k_exc | rfl | decide +kernel)
    (case h292 => first | k_is | k_exc | rfl | decide +kernel)
    (case h296 => first | k_is | k_exc | rfl | decide +kernel)
    (case h300 => first | k_is | k_exc | rfl | decide +kernel)
    (case h304 => first | k_is | k_exc | rfl | decide +kernel)
    (case h308 => first | k_is | k_exc | rfl | decide +kernel)
    (case h309 => first | k_is | k_exc | rfl | decide +kernel)
    (case h310 => first | k_is | k_exc | rfl | decide +kernel)
    (case h311 => first | k_is | k_exc | rfl | decide +kernel)
    (case h312 => first | k_is | k_exc | rfl | decide +kernel)
    (case h313 => first | k_is | k_exc | rfl | decide +kernel)
    (case h314 => first | k_is | k_exc | rfl | decide +kernel)
    (case h315 => first | k_is | k_exc | rfl | decide +kernel)
    (case h316 => first | k_is | k_exc | rfl | decide +kernel)
    (case h317 => first | k_is | k_exc | rfl | decide +kernel)
    (case h318 => first | k_is | k_exc | rfl | decide +kernel)
    (case h319 => first | k_is | k_exc | rfl | decide +kernel)
    (case h326 => first | k_is | k_exc | rfl | decide +kernel)
    (case h348 => first | k_is | k_exc | rfl | decide +kernel)
    (case h377 => first | k_is | k_exc | rfl | decide +kernel)
    (case h382 => first | k_is | k_exc | rfl | decide +kernel)
    (case h387 => first | k_is | k_exc | rfl | decide +kernel)
    (case h388 => first | k_is | k_exc | rfl | decide +kernel)
    (case h0 => first | k_is | k_exc | rfl | decide +kernel)
    (case h5 => first | k_is | k_exc | rfl | decide +kernel)
    (case h10 => first | k_is | k_exc | rfl | decide +kernel)
    (case h15 => first | k_is | k_exc | rfl | decide +kernel)
    (case h20 => first | k_is | k_exc | rfl | decide +kernel)
    (case h25 => first | k_is | k_exc | rfl | decide +kernel)
    (case h30 => first | k_is | k_exc | rfl | decide +kernel)
    (case h35 => first | k_is | k_exc | rfl | decide +kernel)
    (case h40 => first | k_is | k_exc | rfl | decide +kernel)
    (case h45 => first | k_is | k_exc | rfl | decide +kernel)
    (case h50 => first | k_is | k_exc | rfl | decide +kernel)
    (case h55 => first | k_is | k_exc | rfl | decide +kernel)
    (case h84 => first | k_is | k_exc | rfl | decide +kernel)
    (case h91 => first | k_is | k_exc | rfl | decide +kernel)
    (case h96 => first | k_is | k_exc | rfl | decide +kernel)
    (case h101 => first | k_is | k_exc | rfl | decide +kernel)
    (case h106 => first | k_is | k_exc | rfl | decide +kernel)
    (case h111 => first | k_is | k_exc | rfl | decide +kernel)
    (case h116 => first | k_is | k_exc | rfl | decide +kernel)
    (case h121 => first | k_is | k_exc | rfl | decide +kernel)
    (case h126 => first | k_is | k_exc | rfl | decide +kernel)
    (case h131 => first | k_is | k_exc | rfl | decide +kernel)
    (case h138 => first | k_is | k_exc | rfl | decide +kernel)
    (case h144 => first | k_is | k_exc | rfl | decide +kernel)
    (case h150 => first | k_is | k_exc | rfl | decide +kernel)
    (case h139 => first | k_is | k_exc | rfl | decide +kernel)
    (case h145 => first | k_is | k_exc | rfl | decide +kernel)
    (case h151 => first | k_is | k_exc | rfl | decide +kernel)
    (case h2 => first | k_is | k_exc | rfl | decide +kernel)
    (case h7 => first | k_is | k_exc | rfl | decide +kernel)
    (case h12 => first | k_is | k_exc | rfl | decide +kernel)
    (case h17 => first | k_is | k_exc | rfl | decide +kernel)
    (case h22 => first | k_is | k_exc | rfl | decide +kernel)
    (case h27 => first | k_is | k_exc | rfl | decide +kernel)
    (case h32 => first | k_is | k_exc | rfl | decide +kernel)
    (case h37 => first | k_is | k_exc | rfl | decide +kernel)
    (case h42 => first | k_is | k_exc | rfl | decide +kernel)
    (case h47 => first | k_is | k_exc | rfl | decide +kernel)
    (case h52 => first | k_is | k_exc | rfl | decide +kernel)
    (case h57 => first | k_is | k_exc | rfl | decide +kernel)
    (case h61 => first | k_is | k_exc | rfl | decide +kernel)
    (case h65 => first | k_is | k_exc | rfl | decide +kernel)
    (case h69 => first | k_is | k_exc | rfl | decide +kernel)
    (case h73 => first | k_is | k_exc | rfl | decide +kernel)
    (case h77 => first | k_is | k_exc | rfl | decide +kernel)
    (case h81 => first | k_is | k_exc | rfl | decide +kernel)
    (case h86 => first | k_is | k_exc | rfl | decide +kernel)
    (case h93 => first | k_is | k_exc | rfl | decide +kernel)
    (case h98 => first | k_is | k_exc | rfl | decide +kernel)
    (case h103 => first | k_is | k_exc | rfl | decide +kernel)
    (case h108 => first | k_is | k_exc | rfl | decide +kernel)
    (case h113 => first | k_is | k_exc | rfl | decide +kernel)
    (case h118 => first | k_is | k_exc | rfl | decide +kernel)
    (case h123 => first | k_is | k_exc | rfl | decide +kernel)
    (case h128 => first | k_is | k_exc | rfl | decide +kernel)
    (case h133 => first | k_is | k_exc | rfl | decide +kernel)
    (case h141 => first | k_is | k_exc | rfl | decide +kernel)
    (case h147 => first | k_is | k_exc | rfl | decide +kernel)
    (case h153 => first | k_is | k_exc | rfl | decide +kernel)
    (case h157 => first | k_is | k_exc | rfl | decide +kernel)
    (case h161 => first | k_is | k_exc | rfl | decide +kernel)
    (case h165 => first | k_is | k_exc | rfl | decide +kernel)
    (case h169 => first | k_is | k_exc | rfl | decide +kernel)
    (case h173 => first | k_is | k_exc | rfl | decide +kernel)
    (case h177 => first | k_is | k_exc | rfl | decide +kernel)
    (case h181 => first | k_is | k_exc | rfl | decide +kernel)
    (case h185 => first | k_is | k_exc | rfl | decide +kernel)
    (case h189 => first | k_is | k_exc | rfl | decide +kernel)
    (case h193 => first | k_is | k_exc | rfl | decide +kernel)
    (case h197 => first | k_is | k_exc | rfl | decide +kernel)
    (case h201 => first | k_is | k_exc | rfl | decide +kernel)
    (case h205 => first | k_is | k_exc | rfl | decide +kernel)
    (case h209 => first | k_is | k_exc | rfl | decide +kernel)
    (case h213 => first | k_is | k_exc | rfl | decide +kernel)
    (case h217 => first | k_is | k_exc | rfl | decide +kernel)
    (case h221 => first | k_is | k_exc | rfl | decide +kernel)
    (case h225 => first | k_is | k_exc | rfl | decide +kernel)
    (case h229 => first | k_is | k_exc | rfl | decide +kernel)
    (case h233 => first | k_is | k_exc | rfl | decide +kernel)
    (case h237 => first | k_is | k_exc | rfl | decide +kernel)
    (case h241 => first | k_is | k_exc | rfl | decide +kernel)
    (case h245 => first | k_is | k_exc | rfl | decide +kernel)
    (case h249 => first | k_is | k_exc | rfl | decide +kernel)
    (case h253 => first | k_is | k_exc | rfl | decide +kernel)
    (case h257 => first | k_is | k_exc | rfl | decide +kernel)
    (case h261 => first | k_is | k_exc | rfl | decide +kernel)
    (case h265 => first | k_is | k_exc | rfl | decide +kernel)
    (case h269 => first | k_is | k_exc | rfl | decide +kernel)
    (case h273 => first | k_is | k_exc | rfl | decide +kernel)
    (case h277 => first | k_is | k_exc | rfl | decide +kernel)
    (case h281 => first | k_is | k_exc | rfl | decide +kernel)
    (case h285 => first | k_is | k_exc | rfl | decide +kernel)
    (case h289 => first | k_is | k_exc | rfl | decide +kernel)
    (case h293 => first | k_is | k_exc | rfl | decide +kernel)
    (case h297 => first | k_is | k_exc | rfl | decide +kernel)
    (case h301 => first | k_is | k_exc | rfl | decide +kernel)
    (case h305 => first | k_is | k_exc | rfl | decide +kernel)
    (case h3 => first | k_is | k_exc | rfl | decide +kernel)
    (case h8 => first | k_is | k_exc | rfl | decide +kernel)
    (case h13 => first | k_is | k_exc | rfl | decide +kernel)
    (case h18 => first | k_is | k_exc | rfl | decide +kernel)
    (case h23 => first | k_is | k_exc | rfl | decide +kernel)
    (case h28 => first | k_is | k_exc | rfl | decide +kernel)
    (case h33 => first | k_is | k_exc | rfl | decide +kernel)
    (case h38 => first | k_is | k_exc | rfl | decide +kernel)
    (case h43 => first | k_is | k_exc | rfl | decide +kernel)
    (case h48 => first | k_is | k_exc | rfl | decide +kernel)
    (case h53 => first | k_is | k_exc | rfl | decide +kernel)
    (case h58 => first | k_is | k_exc | rfl | decide +kernel)
    (case h62 => first | k_is | k_exc | rfl | decide +kernel)
    (case h66 => first | k_is | k_exc | rfl | decide +kernel)
    (case h70 => first | k_is | k_exc | rfl | decide +kernel)
    (case h74 => first | k_is | k_exc | rfl | decide +kernel)
    (case h78 => first | k_is | k_exc | rfl | decide +kernel)
    (case h82 => first | k_is | k_exc | rfl | decide +kernel)
    (case h87 => first | k_is | k_exc | rfl | decide +kernel)
    (case h94 => first | k_is | k_exc | rfl | decide +kernel)
    (case h99 => first | k_is | k_exc | rfl | decide +kernel)
    (case h104 => first | k_is | k_exc | rfl | decide +kernel)
    (case h109 => first | k_is | k_exc | rfl | decide +kernel)
    (case h114 => first | k_is | k_exc | rfl | decide +kernel)
    (case h119 => first | k_is | k_exc | rfl | decide +kernel)
    (case h124 => first | k_is | k_exc | rfl | decide +kernel)
    (case h129 => first | k_is | k_exc | rfl | decide +kernel)
    (case h134 => first | k_is | k_exc | rfl | decide +kernel)
    (case h142 => first | k_is | k_exc | rfl | decide +kernel)
    (case h148 => first | k_is | k_exc | rfl | decide +kernel)
    (case h154 => first | k_is | k_exc | rfl | decide +kernel)
    (case h158 => first | k_is | k_exc | rfl | decide +kernel)
    (case h162 => first | k_is | k_exc | rfl | decide +kernel)
    (case h166 => first | k_is | k_exc | rfl | decide +kernel)
    (case h170 => first | k_is | k_exc | rfl | decide +kernel)
    (case h174 => first | k_is | k_exc | rfl | decide +kernel)
    (case h178 => first | k_is | k_exc | rfl | decide +kernel)
    (case h182 => first | k_is | k_exc | rfl | decide +kernel)
    (case h186 => first | k_is | k_exc | rfl | decide +kernel)
    (case h190 => first | k_is | k_exc | rfl | decide +kernel)
    (case h194 => first | k_is | k_exc | rfl | decide +kernel)
    (case h198 => first | k_is | k_exc | rfl | decide +kernel)
    (case h202 => first | k_is | k_exc | rfl | decide +kernel)
    (case h206 => first | k_is | k_exc | rfl | decide +kernel)
    (case h210 => first | k_is | k_exc | rfl | decide +kernel)
    (case h214 => first | k_is | k_exc | rfl | decide +kernel)
    (case h218 => first | k_is | k_exc | rfl | decide +kernel)
    (case h222 => first | k_is | k_exc | rfl | decide +kernel)
    (case h226 => first | k_is | k_exc | rfl | decide +kernel)
    (case h230 => first | k_is | k_exc | rfl | decide +kernel)
    (case h234 => first | k_is | k_exc | rfl | decide +kernel)
    (case h238 => first | k_is | k_exc | rfl | decide +kernel)
    (case h242 => first | k_is | k_exc | rfl | decide +kernel)
    (case h246 => first | k_is | k_exc | rfl | decide +kernel)
    (case h250 => first | k_is | k_exc | rfl | decide +kernel)
    (case h254 => first | k_is | k_exc | rfl | decide +kernel)
    (case h258 => first | k_is | k_exc | rfl | decide +kernel)
    (case h262 => first | k_is | k_exc | rfl | decide +kernel)
    (case h266 => first | k_is | k_exc | rfl | decide +kernel)
    (case h270 => first | k_is | k_exc | rfl | decide +kernel)
    (case h274 => first | k_is | k_exc | rfl | decide +kernel)
    (case h278 => first | k_is | k_exc | rfl | decide +kernel)
    (case h282 => first | k_is | k_exc | rfl | decide +kernel)
    (case h286 => first | k_is | k_exc | rfl | decide +kernel)
    (case h290 => first | k_is | k_exc | rfl | decide +kernel)
    (case h294 => first | k_is | k_exc | rfl | decide +kernel)
    (case h298 => first | k_is | k_exc | rfl | decide +kernel)
    (case h302 => first | k_is | k_exc | rfl | decide +kernel)
    (case h306 => first | k_is | k_exc | rfl | decide +kernel)
    (case h1 => first | k_is | k_exc | rfl | decide +kernel)
    (case h4 => first | k_is | k_exc | rfl | decide +kernel)
    (case h6 => first | k_is | k_exc | rfl | decide +kernel)
    (case h9 => first | k_is | k_exc | rfl | decide +kernel)
    (case h11 => first | k_is | k_exc | rfl | decide +kernel)
    (case h14 => first | k_is | k_exc | rfl | decide +kernel)
    (case h16 => first | k_is | k_exc | rfl | decide +kernel)
    (case h19 => first | k_is | k_exc | rfl | decide +kernel)
    (case h21 => first | k_is | k_exc | rfl | decide +kernel)
    (case h24 => first | k_is | k_exc | rfl | decide +kernel)
    (case h26 => first | k_is | k_exc | rfl | decide +kernel)
    (case h29 => first | k_is | k_exc | rfl | decide +kernel)
    (case h31 => first | k_is | k_exc | rfl | decide +kernel)
    (case h34 => first | k_is | k_exc | rfl | decide +kernel)
    (case h36 => first | k_is | k_exc | rfl | decide +kernel)
    (case h39 => first | k_is | k_exc | rfl | decide +kernel)
    (case h41 => first | k_is | k_exc | rfl | decide +kernel)
    (case h44 => first | k_is | k_exc | rfl | decide +kernel)
    (case h46 => first | k_is | k_exc | rfl | decide +kernel)
    (case h49 => first | k_is | k_exc | rfl | decide +kernel)
    (case h51 => first | k_is | k_exc | rfl | decide +kernel)
    (case h54 => first | k_is | k_exc | rfl | decide +kernel)
    (case h56 => first | k_is | k_exc | rfl | decide +kernel)
    (case h59 => first | k_is | k_exc | rfl | decide +kernel)
    (case h63 => first | k_is | k_exc | rfl | decide +kernel)
    (case h67 => first | k_is | k_exc | rfl | decide +kernel)
    (case h71 => first | k_is | k_exc | rfl | decide +kernel)
    (case h75 => first | k_is | k_exc | rfl | decide +kernel)
    (case h79 => first | k_is | k_exc | rfl | decide +kernel)
    (case h83 => first | k_is | k_exc | rfl | decide +kernel)
    (case h85 => first | k_is | k_exc | rfl | decide +kernel)
    (case h88 => first | k_is | k_exc | rfl | decide +kernel)
    (case h89 => first | k_is | k_exc | rfl | decide +kernel)
    (case h90 => first | k_is | k_exc | rfl | decide +kernel)
    (case h92 => first | k_is | k_exc | rfl | decide +kernel)
    (case h95 => first | k_is | k_exc | rfl | decide +kernel)
    (case h97 => first | k_is | k_exc | rfl | decide +kernel)
    (case h100 => first | k_is | k_exc | rfl | decide +kernel)
    (case h102 => first | k_is | k_exc | rfl | decide +kernel)
    (case h105 => first | k_is | k_exc | rfl | decide +kernel)
    (case h107 => first | k_is | k_exc | rfl | decide +kernel)
    (case h110 => first | k_is | k_exc | rfl | decide +kernel)
    (case h112 => first | k_is | k_exc | rfl | decide +kernel)
    (case h115 => first | k_is | k_exc | rfl | decide +kernel)
    (case h117 => first | k_is | k_exc | rfl | decide +kernel)
    (case h120 => first | k_is | k_exc | rfl | decide +kernel)
    (case h122 => first | k_is | k_exc | rfl | decide +kernel)
    (case h125 => first | k_is | k_exc | rfl | decide +kernel)
    (case h127 => first | k_is | k_exc | rfl | decide +kernel)
    (case h130 => first | k_is | k_exc | rfl | decide +kernel)
    (case h132 => first | k_is | k_exc | rfl | decide +kernel)
    (case h135 => first | k_is | k_exc | rfl | decide +kernel)
    (case h136 => first | k_is | k_exc | rfl | decide +kernel)
    (case h137 => first | k_is | k_exc | rfl | decide +kernel)
    (case h140 => first | k_is | k_exc | rfl | decide +kernel)
    (case h143 => first | k_is | k_exc | rfl | decide +kernel)
    (case h146 => first | k_is | k_exc | rfl | decide +kernel)
    (case h149 => first | k_is | k_exc | rfl | decide +kernel)
    (case h152 => first | k_is | k_exc | rfl | decide +kernel)
    (case h155 => first | k_is | k_exc | rfl | decide +kernel)
    (case h159 => first | k_is | k_exc | rfl | decide +kernel)
    (case h163 => first | k_is | k_exc | rfl | decide +kernel)
    (case h167 => first | k_is | k_exc | rfl | decide +kernel)
    (case h171 => first | k_is | k_exc | rfl | decide +kernel)
    (case h175 => first | k_is | k_exc | rfl | decide +kernel)
    (case h179 => first | k_is | k_exc | rfl | decide +kernel)
    (case h183 => first | k_is | k_exc | rfl | decide +kernel)
    (case h187 => first | k_is | k_exc | rfl | decide +kernel)
    (case h191 => first | k_is | k_exc | rfl | decide +kernel)
    (case h195 => first | k_is | k_exc | rfl | decide +kernel)
    (case h199 => first | k_is | k_exc | rfl | decide +kernel)
    (case h203 => first | k_is | k_exc | rfl | decide +kernel)
    (case h207 => first | k_is | k_exc | rfl | decide +kernel)
    (case h211 => first | k_is | k_exc | rfl | decide +kernel)
    (case h215 => first | k_is | k_exc | rfl | decide +kernel)
    (case h219 => first | k_is | k_exc | rfl | decide +kernel)
    (case h223 => first | k_is | k_exc | rfl | decide +kernel)
    (case h227 => first | k_is | k_exc | rfl | decide +kernel)
    (case h231 => first | k_is | k_exc | rfl | decide +kernel)
    (case h235 => first | k_is | k_exc | rfl | decide +kernel)
    (case h239 => first | k_is | k_exc | rfl | decide +kernel)
    (case h243 => first | k_is | k_exc | rfl | decide +kernel)
    (case h247 => first | k_is | k_exc | rfl | decide +kernel)
    (case h251 => first | k_is | k_exc | rfl | decide +kernel)
    (case h255 => first | k_is | k_exc | rfl | decide +kernel)
    (case h259 => first | k_is | k_exc | rfl | decide +kernel)
    (case h263 => first | k_is | k_exc | rfl | decide +kernel)
    (case h267 => first | k_is | k_exc | rfl | decide +kernel)
    (case h271 => first | k_is | k_exc | rfl | decide +kernel)
    (case h275 => first | k_is | k_exc | rfl | decide +kernel)
    (case h279 => first | k_is | k_exc | rfl | decide +kernel)
    (case h283 => first | k_is | k_exc | rfl | decide +kernel)
    (case h287 => first | k_is | k_exc | rfl | decide +kernel)
    (case h291 => first | k_is | k_exc | rfl | decide +kernel)
    (case h295 => first | k_is | k_exc | rfl | decide +kernel)
    (case h299 => first | k_is | k_exc | rfl | decide +kernel)
    (case h303 => first | k_is | k_exc | rfl | decide +kernel)
    (case h307 => first | k_is | k_exc | rfl | decide +kernel)
    (case h320 => first | k_is | k_exc | rfl | decide +kernel)
    (case h321 => first | k_is | k_exc | rfl | decide +kernel)
    (case h322 => first | k_is | k_exc | rfl | decide +kernel)
    (case h323 => first | k_is | k_exc | rfl | decide +kernel)
    (case h324 => first | k_is | k_exc | rfl | decide +kernel)
    (case h325 => first | k_is | k_exc | rfl | decide +kernel)
    (case h327 => first | k_is | k_exc | rfl | decide +kernel)
    (case h328 => first | k_is | k_exc | rfl | decide +kernel)
    (case h329 => first | k_is | k_exc | rfl | decide +kernel)
    (case h330 => first | k_is | k_exc | rfl | decide +kernel)
    (case h331 => first | k_is | k_exc | rfl | decide +kernel)
    (case h332 => first | k_is | k_exc | rfl | decide +kernel)
    (case h333 => first | k_is | k_exc | rfl | decide +kernel)
    (case h334 => first | k_is | k_exc | rfl | decide +kernel)
    (case h335 => first | k_is | k_exc | rfl | decide +kernel)
    (case h336 => first | k_is | k_exc | rfl | decide +kernel)
    (case h337 => first | k_is | k_exc | rfl | decide +kernel)
    (case h338 => first | k_is | k_exc | rfl | decide +kernel)
    (case h339 => first | k_is | k_exc | rfl | decide +kernel)
    (case h340 => first | k_is | k_exc | rfl | decide +kernel)
    (case h341 => first | k_is | k_exc | rfl | decide +kernel)
    (case h342 => first | k_is | k_exc | rfl | decide +kernel)
    (case h343 => first | k_is | k_exc | rfl | decide +kernel)
    (case h344 => first | k_is | k_exc | rfl | decide +kernel)
    (case h345 => first | k_is | k_exc | rfl | decide +kernel)
    (case h346 => first | k_is | k_exc | rfl | decide +kernel)
    (case h347 => first | k_is | k_exc | rfl | decide +kernel)
    (case h349 => first | k_is | k_exc | rfl | decide +kernel)
    (case h350 => first | k_is | k_exc | rfl | decide +kernel)
    (case h351 => first | k_is | k_exc | rfl | decide +kernel)
    (case h352 => first | k_is | k_exc | rfl | decide +kernel)
    (case h353 => first | k_is | k_exc | rfl | decide +kernel)
    (case h354 => first | k_is | k_exc | rfl | decide +kernel)
    (case h355 => first | k_is | k_exc | rfl | decide +kernel)
    (case h356 => first | k_is | k_exc | rfl | decide +kernel)
    (case h357 => first | k_is | k_exc | rfl | decide +kernel)
    (case h359 => first | k_is | k_exc | rfl | decide +kernel)
    (case h360 => first | k_is | k_exc | rfl | decide +kernel)
    (case h361 => first | k_is | k_exc | rfl | decide +kernel)
    (case h362 => first | k_is | k_exc | rfl | decide +kernel)
    (case h363 => first | k_is | k_exc | rfl | decide +kernel)
    (case h364 => first | k_is | k_exc | rfl | decide +kernel)
    (case h365 => first | k_is | k_exc | rfl | decide +kernel)
    (case h366 => first | k_is | k_exc | rfl | decide +kernel)
    (case h367 => first | k_is | k_exc | rfl | decide +kernel)
    (case h368 => first | k_is | k_exc | rfl | decide +kernel)
    (case h369 => first | k_is | k_exc | rfl | decide +kernel)
    (case h370 => first | k_is | k_exc | rfl | decide +kernel)
    (case h371 => first | k_is | k_exc | rfl | decide +kernel)
    (case h372 => first | k_is | k_exc | rfl | decide +kernel)
    (case h373 => first | k_is | k_exc | rfl | decide +kernel)
    (case h374 => first | k_is | k_exc | rfl | decide +kernel)
    (case h375 => first | k_is | k_exc | rfl | decide +kernel)
    (case h376 => first | k_is | k_exc | rfl | decide +kernel)
    (case h378 => first | k_is | k_exc | rfl | decide +kernel)
    (case h380 => first | k_is | k_exc | rfl | decide +kernel)
    (case h381 => first | k_is | k_exc | rfl | decide +kernel)
    (case h383 => first | k_is | k_exc | rfl | decide +kernel)
    (case h385 => first | k_is | k_exc | rfl | decide +kernel)
    (case h386 => first | k_is | k_exc | rfl | decide +kernel)
    (case h389 => first | k_is | k_exc | rfl | decide +kernel)
    (case h390 => first | k_is | k_exc | rfl | decide +kernel)
    (case h391 => first | k_is | k_exc | rfl | decide +kernel)
    (case h392 => first | k_is | k_exc | rfl | decide +kernel)
    (case h393 => first | k_is | k_exc | rfl | decide +kernel)
    (case h394 => first | k_is | k_exc | rfl | decide +kernel)
    (case h395 => first | k_is | k_exc | rfl | decide +kernel)
    (case h396 => first | k_is | k_exc | rfl | decide +kernel)
    (case h397 => first | k_is | k_exc | rfl | decide +kernel)
    (case h398 => first | k_is | k_exc | rfl | decide +kernel)
    (case h399 => first | k_is | k_exc | rfl | decide +kernel)
    (case h400 => first | k_is | k_exc | rfl | decide +kernel)
    (case h401 => first | k_is | k_exc | rfl | decide +kernel)
    (case h402 => first | k_is | k_exc | rfl | decide +kernel)
    (case h403 => first | k_is | k_exc | rfl | decide +kernel)
    (case h404 => first | k_is | k_exc | rfl | decide +kernel)
    (case h405 => first | k_is | k_exc | rfl | decide +kernel)
    (case h406 => first | k_is | k_exc | rfl | decide +kernel)
    (case h407 => first | k_is | k_exc | rfl | decide +kernel)
    (case h408 => first | k_is | k_exc | rfl | decide +kernel)
    (case h409 => first | k_is | k_exc | rfl | decide +kernel)
    (case h358 => first | k_is | k_exc | rfl | decide +kernel)
    (case h379 => first | k_is | k_exc | rfl | decide +kernel)
    (case h384 => first | k_is | k_exc | rfl | decide +kernel)
    (case lT => first | k_is | k_exc | rfl | decide +kernel)
    (case dT => first | k_is | k_exc | rfl | decide +kernel)
