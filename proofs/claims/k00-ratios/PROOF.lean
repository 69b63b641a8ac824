import PyProof.Rows.All
import Wide.All
import OpenK.AllK
import Wide.FinOn
import HandS.ForMost
import HandS.ForExc
import HandS.Gcd
import HandS.IsInst
import HandS.WideBits
import HandS.Defaults
import HandS.Records
import KE.KOpsOwn
import PyProof.InstNe
import PyProof.FactsInt
import HandS.ExcIs
import HandS.TryMany
import HandS.ForSpec
import PySem.Challenge.RW_heightsfitted_k00_ratios_are_exact
set_option Elab.async false
set_option linter.all false
set_option maxRecDepth 100000
/-! Fw1: a logic over data, on top of the hand layer: values as plain data, readings as semantic preconditions. -/
namespace DL
open PySem PySem.Spec PyProof.Rows L2

/-! ### semantic preconditions -/
section
variable (X : Cx)
def we (e : Expr) : TE := fun σ H Q => ∀ pins s, Inv X pins σ H s → wpAny (model X.prog X.w) X.A (eval e X.env) (EP X pins σ Q) X.xe s
def wt (e : Expr) : TT := fun σ H Q => ∀ pins s, Inv X pins σ H s → wpAny (model X.prog X.w) X.A (isTrue e X.env (eval e X.env)) (TP X pins σ Q) X.xe s
def ww (e : Expr) : TT := fun σ H Q => ∀ whole pins s, Inv X pins σ H s → wpAny (model X.prog X.w) X.A (isTrue e X.env whole) (TP X pins σ Q) X.xe s
def wa (es : List Expr) : TA := fun σ H Q => ∀ pos pins s, Inv X pins σ H s → wpAny (model X.prog X.w) X.A (spliced (backTo pos (starEach es X.env))) (AP X pins σ Q) X.xe s
def ws1 (st : Stmt) : TS := fun D σ H => ∀ pins s, Inv X pins σ H s → wpAny (model X.prog X.w) X.A (exec st X.env) (SP X pins D) X.xe s
def ws (st : List Stmt) : TS := fun D σ H => ∀ pins s, Inv X pins σ H s → wpAny (model X.prog X.w) X.A (execs st X.env) (SP X pins D) X.xe s
def wop (f : Value → Value → Sem Value) : R2 := fun x y H Q => ∀ pins σ s v u, Inv X pins σ H s → RelV x v → RelV y u → wpAny (model X.prog X.w) X.A (f v u) (EP X pins σ Q) X.xe s
def wun (f : Value → Sem Value) : V → Hp → VK → Prop := fun x H Q => ∀ pins σ s v, Inv X pins σ H s → RelV x v → wpAny (model X.prog X.w) X.A (f v) (EP X pins σ Q) X.xe s
def wcall (f : Value) : List V → Hp → VK → Prop := fun xs H Q => ∀ pins σ s us, Inv X pins σ H s → Vals xs us → wpAny (model X.prog X.w) X.A (call f us) (EP X pins σ Q) X.xe s
def wmt (id : String) : V → List V → Hp → VK → Prop := fun x xs H Q => ∀ pins σ s v us, Inv X pins σ H s → RelV x v → Vals xs us → wpAny (model X.prog X.w) X.A (call (.builtin id) (v :: us)) (EP X pins σ Q) X.xe s
def wtr : V → Hp → (Bool → Hp → Prop) → Prop := fun x H Q => ∀ pins σ s v, Inv X pins σ H s → RelV x v → wpAny (model X.prog X.w) X.A (truthy v) (TP X pins σ Q) X.xe s
end
section
variable {X : Cx}
theorem pe_we {e : Expr} : PE X e (we X e) := ⟨fun pins s σ H Q I h => h pins s I⟩
theorem pt_wt {e : Expr} : PT X e (wt X e) := ⟨fun pins s σ H Q I h => h pins s I⟩
theorem pw_ww {e : Expr} : PW X e (ww X e) := ⟨fun whole pins s σ H Q I h => h whole pins s I⟩
theorem pa_wa {es : List Expr} : PA X es (wa X es) := ⟨fun pos pins s σ H Q I h => h pos pins s I⟩
theorem ps_ws1 {st : Stmt} : PS X st (ws1 X st) := ⟨fun pins s σ H D I h => h pins s I⟩
theorem pss_ws {st : List Stmt} : PSs X st (ws X st) := ⟨fun pins s σ H D I h => h pins s I⟩
theorem opr_wop {f : Value → Value → Sem Value} : OpR X f (wop X f) := fun pins s σ H x y v u Q I rx ry h => h pins σ s v u I rx ry
theorem unr_wun {f : Value → Sem Value} : UnR X f (wun X f) := fun pins s σ H x v Q I rx h => h pins σ s v I rx
theorem callr_w {f : Value} : CallR X f (wcall X f) := fun pins s σ H xs us Q I r h => h pins σ s us I r
theorem mt_w {id : String} : MtR X id (wmt X id) := fun pins s σ H x xs v us Q I rx r h => h pins σ s v us I rx r
theorem tru_w : TruR X (wtr X) := fun pins s σ H x v Q I rx h => h pins σ s v I rx
theorem _root_.L2.PE.to {e : Expr} {t : TE} {σ : L2.St} {H : Hp} {Q : VK} (p : PE X e t) (h : t σ H Q) : we X e σ H Q := fun pins s I => p.run pins s σ H Q I h
theorem _root_.L2.PT.to {e : Expr} {t : TT} {σ : L2.St} {H : Hp} {Q : Bool → Hp → Prop} (p : PT X e t) (h : t σ H Q) : wt X e σ H Q := fun pins s I => p.run pins s σ H Q I h
theorem _root_.L2.PW.to {e : Expr} {t : TT} {σ : L2.St} {H : Hp} {Q : Bool → Hp → Prop} (p : PW X e t) (h : t σ H Q) : ww X e σ H Q := fun whole pins s I => p.run whole pins s σ H Q I h
theorem _root_.L2.PA.to {es : List Expr} {t : TA} {σ : L2.St} {H : Hp} {Q : List V → Hp → Prop} (p : PA X es t) (h : t σ H Q) : wa X es σ H Q := fun pos pins s I => p.run pos pins s σ H Q I h
theorem _root_.L2.PS.to {st : Stmt} {t : TS} {σ : L2.St} {H : Hp} {De : Ends} (p : PS X st t) (h : t De σ H) : ws1 X st De σ H := fun pins s I => p.run pins s σ H De I h
theorem _root_.L2.PSs.to {st : List Stmt} {t : TS} {σ : L2.St} {H : Hp} {De : Ends} (p : PSs X st t) (h : t De σ H) : ws X st De σ H := fun pins s I => p.run pins s σ H De I h
theorem _root_.L2.OpR.to {f : Value → Value → Sem Value} {r : R2} {x y : V} {H : Hp} {Q : VK} (p : OpR X f r) (h : r x y H Q) : wop X f x y H Q := fun pins σ s v u I rx ry => p pins s σ H x y v u Q I rx ry h
theorem _root_.L2.UnR.to {f : Value → Sem Value} {r : V → Hp → VK → Prop} {x : V} {H : Hp} {Q : VK} (p : UnR X f r) (h : r x H Q) : wun X f x H Q := fun pins σ s v I rx => p pins s σ H x v Q I rx h
theorem _root_.L2.CallR.to {f : Value} {r : List V → Hp → VK → Prop} {xs : List V} {H : Hp} {Q : VK} (p : CallR X f r) (h : r xs H Q) : wcall X f xs H Q := fun pins σ s us I rx => p pins s σ H xs us Q I rx h
theorem _root_.L2.MtR.to {id : String} {r : V → List V → Hp → VK → Prop} {x : V} {xs : List V} {H : Hp} {Q : VK} (p : MtR X id r) (h : r x xs H Q) : wmt X id x xs H Q := fun pins σ s v us I rx rr => p pins s σ H x xs v us Q I rx rr h
theorem _root_.L2.TruR.to {r : V → Hp → (Bool → Hp → Prop) → Prop} {x : V} {H : Hp} {Q : Bool → Hp → Prop} (p : TruR X r) (h : r x H Q) : wtr X x H Q := fun pins σ s v I rx => p pins s σ H x v Q I rx h
theorem wt_mono {e : Expr} {σ : L2.St} {H : Hp} {Q Q' : Bool → Hp → Prop} (k : ∀ b H1, Q b H1 → Q' b H1) (h : wt X e σ H Q) : wt X e σ H Q' := fun pins s I => thn (h pins s I) fun b s1 ⟨H1, I1, q⟩ => ⟨H1, I1, k b H1 q⟩
end

/-! ### data -/
inductive D where
  | non | bl (b : Bool) | int (i : Int) | str (s : Str) | ty (n : String) | ref (a : Addr)
  | tup (ds : List D) | lst (ds : List D) | rol (ds : List D) | ins (C : Addr) (ns : List Str) (ds : List D)
/-- what a name may hold: data, or one of the def's own cells -/
inductive R where
  | d (x : D) | c (k : Nat)
/-- a cell that may change: a list, an instance; known only by a property -/
inductive Cell where
  | gone | lst (rs : List R) | ins (C : Addr) (ns : List Str) (rs : List R) | any (P : List D → Prop)

section
variable (K : PySem.W.Frag) (G : Hp)
mutual
def Rep : D → V → Prop
  | .non, v => v = .non
  | .bl b, v => v = .bl b
  | .int i, v => v = .int i
  | .str s, v => v = .str s
  | .ty n, v => v = .ty n
  | .ref a, v => v = .ref a
  | .tup ds, v => ∃ p xs, v = .ref p ∧ SqT K G p xs ∧ Reps ds xs
  | .lst ds, v => ∃ p xs, v = .ref p ∧ G p = some (.lst xs) ∧ Reps ds xs
  | .rol ds, v => ∃ p xs, v = .ref p ∧ SqL K G p xs ∧ Reps ds xs
  | .ins C ns ds, v => ∃ p dx xs, v = .ref p ∧ G p = some (.ins C dx (ns.zip xs)) ∧ ns.length = ds.length ∧ Reps ds xs
def Reps : List D → List V → Prop
  | [], xs => xs = []
  | d :: ds, xs => ∃ x r, xs = x :: r ∧ Rep d x ∧ Reps ds r
end
end
theorem Same.seqT {K : PySem.W.Frag} {H H' : Hp} {a : Addr} {xs : List V} (e : Same H H') (h : SqT K H a xs) : SqT K H' a xs := by
  rcases h with (h | ⟨o, h⟩) | h
  · exact .inl (.inl (e _ _ h))
  · exact .inl (.inr ⟨o, e _ _ h⟩)
  · exact .inr h
section
variable {K : PySem.W.Frag} {G G' : Hp}
mutual
theorem Rep.mono (e : Same G G') : ∀ {d : D} {v : V}, Rep K G d v → Rep K G' d v
  | .non, _, h => by simpa only [Rep] using h
  | .bl b, _, h => by simpa only [Rep] using h
  | .int i, _, h => by simpa only [Rep] using h
  | .str s, _, h => by simpa only [Rep] using h
  | .ty n, _, h => by simpa only [Rep] using h
  | .ref a, _, h => by simpa only [Rep] using h
  | .tup ds, _, h => by
    simp only [Rep] at h ⊢
    obtain ⟨p, xs, h1, h2, h3⟩ := h
    exact ⟨p, xs, h1, Same.seqT e h2, Reps.mono e h3⟩
  | .lst ds, _, h => by
    simp only [Rep] at h ⊢
    obtain ⟨p, xs, h1, h2, h3⟩ := h
    exact ⟨p, xs, h1, e _ _ h2, Reps.mono e h3⟩
  | .rol ds, _, h => by
    simp only [Rep] at h ⊢
    obtain ⟨p, xs, h1, h2, h3⟩ := h
    exact ⟨p, xs, h1, e.seq h2, Reps.mono e h3⟩
  | .ins C ns ds, _, h => by
    simp only [Rep] at h ⊢
    obtain ⟨p, dx, xs, h1, h2, h3, h4⟩ := h
    exact ⟨p, dx, xs, h1, e _ _ h2, h3, Reps.mono e h4⟩
theorem Reps.mono (e : Same G G') : ∀ {ds : List D} {xs : List V}, Reps K G ds xs → Reps K G' ds xs
  | [], _, h => by simpa only [Reps] using h
  | d :: ds, _, h => by
    simp only [Reps] at h ⊢
    obtain ⟨x, r, h1, h2, h3⟩ := h
    exact ⟨x, r, h1, Rep.mono e h2, Reps.mono e h3⟩
end
theorem Reps.length : ∀ {ds : List D} {xs : List V}, Reps K G ds xs → ds.length = xs.length
  | [], _, h => by simp only [Reps] at h; subst h; rfl
  | d :: ds, _, h => by
    simp only [Reps] at h
    obtain ⟨x, r, rfl, _, h3⟩ := h
    rw [List.length_cons, List.length_cons, Reps.length h3]
theorem Reps.get : ∀ {ds : List D} {xs : List V} {i : Nat} {d : D}, Reps K G ds xs → ds[i]? = some d → ∃ x, xs[i]? = some x ∧ Rep K G d x
  | [], _, i, d, _, e => by simp at e
  | a :: ds, _, 0, d, h, e => by
    simp only [Reps] at h
    obtain ⟨x, r, rfl, h2, _⟩ := h
    simp at e
    subst e
    exact ⟨x, rfl, h2⟩
  | a :: ds, _, i + 1, d, h, e => by
    simp only [Reps] at h
    obtain ⟨x, r, rfl, _, h3⟩ := h
    obtain ⟨y, e1, e2⟩ := Reps.get (i := i) h3 (by simpa using e)
    exact ⟨y, by simpa using e1, e2⟩
theorem Reps.nil : Reps K G [] [] := by simp only [Reps]
theorem Reps.cons {d : D} {ds : List D} {x : V} {xs : List V} (h : Rep K G d x) (t : Reps K G ds xs) : Reps K G (d :: ds) (x :: xs) := by
  simp only [Reps]
  exact ⟨x, xs, rfl, h, t⟩
theorem Reps.append : ∀ {ds es : List D} {xs ys : List V}, Reps K G ds xs → Reps K G es ys → Reps K G (ds ++ es) (xs ++ ys)
  | [], _, _, _, h, t => by simp only [Reps] at h; subst h; exact t
  | d :: ds, _, _, _, h, t => by
    simp only [Reps] at h
    obtain ⟨x, r, rfl, h2, h3⟩ := h
    exact Reps.cons h2 (Reps.append h3 t)
theorem Reps.take : ∀ {ds : List D} {xs : List V} (n : Nat), Reps K G ds xs → Reps K G (ds.take n) (xs.take n)
  | [], _, n, h => by simp only [Reps] at h; subst h; simp only [List.take_nil]; exact Reps.nil
  | d :: ds, _, 0, h => by simp only [List.take_zero]; exact Reps.nil
  | d :: ds, _, n + 1, h => by
    simp only [Reps] at h
    obtain ⟨x, r, rfl, h2, h3⟩ := h
    exact Reps.cons h2 (Reps.take n h3)
theorem Reps.drop : ∀ {ds : List D} {xs : List V} (n : Nat), Reps K G ds xs → Reps K G (ds.drop n) (xs.drop n)
  | [], _, n, h => by simp only [Reps] at h; subst h; simp only [List.drop_nil]; exact Reps.nil
  | d :: ds, _, 0, h => h
  | d :: ds, _, n + 1, h => by
    simp only [Reps] at h
    obtain ⟨x, r, rfl, h2, h3⟩ := h
    exact Reps.drop n h3
theorem Reps.ints : ∀ {ns : List Int} {xs : List V}, Reps K G (ns.map D.int) xs → xs = ns.map V.int
  | [], _, h => by simpa only [List.map_nil, Reps] using h
  | n :: ns, _, h => by
    simp only [List.map_cons, Reps, Rep] at h
    obtain ⟨x, r, rfl, rfl, h3⟩ := h
    rw [Reps.ints h3]; rfl
theorem Reps.ofInts : ∀ {ns : List Int}, Reps K G (ns.map D.int) (ns.map V.int)
  | [] => Reps.nil
  | n :: ns => Reps.cons (by simp only [Rep]) Reps.ofInts
end

/-! ### hidden addresses -/
def msk (S : List Addr) (H : Hp) : Hp := fun b => if b ∈ S then none else H b
section
variable {S T : List Addr} {H H' : Hp} {a l : Addr} {o : HO}
theorem msk_in (h : a ∈ S) : msk S H a = none := by unfold msk; rw [if_pos h]
theorem msk_out (h : a ∉ S) : msk S H a = H a := by unfold msk; rw [if_neg h]
theorem msk_same (S : List Addr) (H : Hp) : Same (msk S H) H := fun b o e => by
  unfold msk at e
  split at e
  · cases e
  · exact e
theorem msk_le (h : ∀ b ∈ T, b ∈ S) : Same (msk S H) (msk T H) := fun b o e => by
  unfold msk at e ⊢
  split at e
  · cases e
  · rename_i hb
    rw [if_neg fun z => hb (h b z)]
    exact e
theorem msk_mono (h : Same H H') : Same (msk S H) (msk S H') := fun b o e => by
  unfold msk at e ⊢
  split at e
  · cases e
  · rename_i hb
    rw [if_neg hb]
    exact h b o e
theorem msk_but (h : ∀ b o, b ∉ S → H b = some o → H' b = some o) : Same (msk S H) (msk S H') := fun b o e => by
  unfold msk at e ⊢
  split at e
  · cases e
  · rename_i hb
    rw [if_neg hb]
    exact h b o hb e
theorem msk_congr (h : ∀ b, b ∈ S ↔ b ∈ T) : msk S H = msk T H := by
  funext b
  unfold msk
  simp only [h b]
theorem msk_upd_in (h : l ∈ S) : msk S (upd H l o) = msk S H := by
  funext b
  unfold msk
  split
  · rfl
  · rename_i hb
    rw [upd_ne (fun z => hb (by rw [z]; exact h))]
end

/-! ### the state: cells, what stands as it was -/
structure Fm where
  H0 : Hp
  S0 : List Addr
  mu : List Addr
  la : List Addr := []
  ga : Hp := fun _ => none
abbrev Fm.of (H0 : Hp) (S0 mu : List Addr) : Fm := { H0 := H0, S0 := S0, mu := mu }
def live : List Addr → List Cell → List Addr
  | _ :: ls, .gone :: own => live ls own
  | l :: ls, _ :: own => l :: live ls own
  | _, _ => []
theorem live_mem : ∀ {ls : List Addr} {own : List Cell} {l : Addr}, l ∈ live ls own → l ∈ ls
  | [], _, _, h => by simp [live] at h
  | a :: ls, [], _, h => by simp [live] at h
  | a :: ls, c :: own, l, h => by
    cases c <;> simp only [live, List.mem_cons] at h ⊢
    · exact .inr (live_mem h)
    all_goals
      rcases h with h | h
      · exact .inl h
      · exact .inr (live_mem h)
theorem live_get : ∀ {ls : List Addr} {own : List Cell} {k : Nat} {l : Addr} {c : Cell}, ls[k]? = some l → own[k]? = some c → c ≠ .gone → l ∈ live ls own
  | [], _, k, l, c, h, _, _ => by simp at h
  | a :: ls, [], k, l, c, _, h, _ => by simp at h
  | a :: ls, e :: own, 0, l, c, h, h', hc => by
    simp at h h'
    subst h h'
    cases e <;> simp only [live, List.mem_cons, true_or] <;> exact absurd rfl hc
  | a :: ls, e :: own, k + 1, l, c, h, h', hc => by
    have := live_get (ls := ls) (own := own) (k := k) (by simpa using h) (by simpa using h') hc
    cases e <;> simp only [live, List.mem_cons]
    · exact this
    all_goals exact .inr this
theorem live_of : ∀ {ls : List Addr} {own : List Cell} {l : Addr}, l ∈ live ls own → ∃ (k : Nat) (c : Cell), ls[k]? = some l ∧ own[k]? = some c ∧ c ≠ .gone
  | [], _, _, h => by simp [live] at h
  | a :: ls, [], _, h => by simp [live] at h
  | a :: ls, e :: own, l, h => by
    have rec_ : l ∈ live ls own → ∃ (k : Nat) (c : Cell), (a :: ls)[k]? = some l ∧ (e :: own)[k]? = some c ∧ c ≠ .gone := fun h => by
      obtain ⟨k, c, h1, h2, h3⟩ := live_of h
      exact ⟨k + 1, c, by simpa using h1, by simpa using h2, h3⟩
    cases e <;> simp only [live, List.mem_cons] at h
    · exact rec_ h
    all_goals
      rcases h with h | h
      · exact ⟨0, _, by simp [h], rfl, fun z => by cases z⟩
      · exact rec_ h
/-- a cell's new content leaves the same addresses hidden -/
theorem live_set : ∀ {ls : List Addr} {own : List Cell} {k : Nat} {c c' : Cell}, own[k]? = some c → c ≠ .gone → c' ≠ .gone → live ls (own.set k c') = live ls own
  | [], _, _, _, _, _, _, _ => by simp [live]
  | a :: ls, [], k, _, _, h, _, _ => by simp at h
  | a :: ls, e :: own, 0, c, c', h, hc, hc' => by
    simp at h
    subst h
    cases e <;> cases c' <;> simp only [List.set_cons_zero, live] <;> first | exact absurd rfl hc | exact absurd rfl hc'
  | a :: ls, e :: own, k + 1, c, c', h, hc, hc' => by
    have := live_set (ls := ls) (own := own) (k := k) (c := c) (c' := c') (by simpa using h) hc hc'
    cases e <;> simp only [List.set_cons_succ, live, this]
theorem live_snoc : ∀ {ls : List Addr} {own : List Cell} {l : Addr} {c : Cell}, ls.length = own.length → c ≠ .gone → live (ls ++ [l]) (own ++ [c]) = live ls own ++ [l]
  | [], [], l, c, _, hc => by cases c <;> simp [live] at hc ⊢
  | [], _ :: _, _, _, h, _ => by simp at h
  | _ :: _, [], _, _, h, _ => by simp at h
  | a :: ls, e :: own, l, c, h, hc => by
    have := live_snoc (ls := ls) (own := own) (l := l) (c := c) (by simpa using h) hc
    cases e <;> simp only [List.cons_append, live, this]

def RRep (K : PySem.W.Frag) (ls : List Addr) (G : Hp) : R → V → Prop
  | .d x, v => Rep K G x v
  | .c k, v => ∃ l, ls[k]? = some l ∧ v = .ref l
abbrev RReps (K : PySem.W.Frag) (ls : List Addr) (G : Hp) : List R → List V → Prop := Paired (RRep K ls G)
def CellAt (K : PySem.W.Frag) (ls : List Addr) (G H : Hp) (l : Addr) : Cell → Prop
  | .gone => True
  | .lst rs => ∃ xs, H l = some (.lst xs) ∧ RReps K ls G rs xs
  | .ins C ns rs => ∃ dx xs, H l = some (.ins C dx (ns.zip xs)) ∧ ns.length = rs.length ∧ RReps K ls G rs xs
  | .any P => ∃ xs ds, H l = some (.lst xs) ∧ Reps K G ds xs ∧ P ds
abbrev Fm.g (F : Fm) (ls : List Addr) (own : List Cell) (H : Hp) : Hp := msk (F.S0 ++ live ls own) H
structure St0 (K : PySem.W.Frag) (F : Fm) (ls : List Addr) (own : List Cell) (H : Hp) : Prop where
  len : ls.length = own.length
  nd : ls.Nodup
  new : ∀ l ∈ ls, l ∉ F.S0 ∧ (F.H0 l = none ∨ l ∈ F.mu)
  at_ : ∀ (k : Nat) (l : Addr) (c : Cell), ls[k]? = some l → own[k]? = some c → CellAt K ls (F.g ls own H) H l c
  keep : ∀ b o, b ∉ F.mu → F.H0 b = some o → H b = some o
  dom : ∀ b, F.H0 b ≠ none → H b ≠ none
  s0 : ∀ b ∈ F.S0, F.H0 b ≠ none
  there : ∀ l ∈ ls, H l ≠ none
  ap : F.la <+: ls
  as : Same F.ga (F.g ls own H)
/-- from one state to a later one -/
structure Le (F : Fm) (ls : List Addr) (own : List Cell) (H : Hp) (ls' : List Addr) (own' : List Cell) (H' : Hp) : Prop where
  pre : ls <+: ls'
  same : Same (F.g ls own H) (F.g ls' own' H')
theorem Le.refl {F : Fm} {ls : List Addr} {own : List Cell} {H : Hp} : Le F ls own H ls own H := ⟨List.prefix_rfl, Same.refl _⟩
theorem Le.trans {F : Fm} {ls ls1 ls2 : List Addr} {own own1 own2 : List Cell} {H H1 H2 : Hp} (a : Le F ls own H ls1 own1 H1) (b : Le F ls1 own1 H1 ls2 own2 H2) : Le F ls own H ls2 own2 H2 := ⟨a.pre.trans b.pre, a.same.trans b.same⟩
section
variable {K : PySem.W.Frag} {F : Fm} {ls ls' : List Addr} {own own' : List Cell} {H H' G G' : Hp}
theorem pre_get {k : Nat} {l : Addr} (p : ls <+: ls') (h : ls[k]? = some l) : ls'[k]? = some l := by
  obtain ⟨t, rfl⟩ := p
  have hk : k < ls.length := (List.getElem?_eq_some_iff.mp h).1
  rw [List.getElem?_append_left hk]
  exact h
theorem RRep.up {r : R} {v : V} (p : ls <+: ls') (e : Same G G') (h : RRep K ls G r v) : RRep K ls' G' r v := by
  cases r with
  | d x => exact Rep.mono (d := x) e h
  | c k =>
    obtain ⟨l, h1, h2⟩ := h
    exact ⟨l, pre_get p h1, h2⟩
theorem RReps.up {rs : List R} {vs : List V} (p : ls <+: ls') (e : Same G G') (h : RReps K ls G rs vs) : RReps K ls' G' rs vs := Paired.mapP h fun _ _ q => q.up p e
theorem RReps.ofD : ∀ {ds : List D} {xs : List V}, Reps K G ds xs → RReps K ls G (ds.map R.d) xs
  | [], _, h => by simp only [Reps] at h; subst h; exact .nil
  | d :: ds, _, h => by
    simp only [Reps] at h
    obtain ⟨x, r, rfl, h2, h3⟩ := h
    exact .cons h2 (RReps.ofD h3)
theorem RReps.toD : ∀ {ds : List D} {xs : List V}, RReps K ls G (ds.map R.d) xs → Reps K G ds xs
  | [], _, .nil => Reps.nil
  | d :: ds, _, .cons h t => Reps.cons h (RReps.toD t)
theorem RReps.length' : ∀ {rs : List R} {xs : List V}, RReps K ls G rs xs → rs.length = xs.length
  | _, _, .nil => rfl
  | _, _, .cons _ t => congrArg Nat.succ (RReps.length' t)
theorem RReps.get' : ∀ {rs : List R} {xs : List V} {i : Nat} {r : R}, RReps K ls G rs xs → rs[i]? = some r → ∃ x, xs[i]? = some x ∧ RRep K ls G r x
  | _, _, i, r, .nil, e => by simp at e
  | _, _, 0, r, .cons h t, e => by
    simp at e
    subst e
    exact ⟨_, rfl, h⟩
  | _, _, i + 1, r, .cons h t, e => by
    obtain ⟨x, e1, e2⟩ := RReps.get' (i := i) (r := r) t (by simpa using e)
    exact ⟨x, by simpa using e1, e2⟩
theorem CellAt.up {l : Addr} {c : Cell} (p : ls <+: ls') (e : Same G G') (hl : ∀ o, H l = some o → H' l = some o) (h : CellAt K ls G H l c) : CellAt K ls' G' H' l c := by
  cases c with
  | gone => exact True.intro
  | lst rs => obtain ⟨xs, h1, h2⟩ := h; exact ⟨xs, hl _ h1, h2.up p e⟩
  | ins C ns rs => obtain ⟨dx, xs, h1, h2, h3⟩ := h; exact ⟨dx, xs, hl _ h1, h2, h3.up p e⟩
  | any P => obtain ⟨xs, ds, h1, h2, h3⟩ := h; exact ⟨xs, ds, hl _ h1, Reps.mono e h2, h3⟩
/-- every hidden address is there -/
theorem St0.hid (s : St0 K F ls own H) : ∀ b ∈ F.S0 ++ live ls own, H b ≠ none := fun b hb => by
  rcases List.mem_append.mp hb with h | h
  · exact s.dom b (s.s0 b h)
  · obtain ⟨k, c, h1, h2, h3⟩ := live_of h
    have q := s.at_ k b c h1 h2
    cases c with
    | gone => exact absurd rfl h3
    | lst rs => obtain ⟨xs, e, _⟩ := q; rw [e]; exact fun z => by cases z
    | ins C ns rs => obtain ⟨dx, xs, e, _⟩ := q; rw [e]; exact fun z => by cases z
    | any P => obtain ⟨xs, ds, e, _⟩ := q; rw [e]; exact fun z => by cases z
/-- the heap grows -/
theorem St0.grow (s : St0 K F ls own H) (e : Same H H') : St0 K F ls own H' where
  len := s.len
  nd := s.nd
  new := s.new
  at_ := fun k l c h1 h2 => (s.at_ k l c h1 h2).up List.prefix_rfl (msk_mono e) fun o => e l o
  keep := fun b o h1 h2 => e _ _ (s.keep b o h1 h2)
  dom := fun b h => by
    have := s.dom b h
    cases q : H b with
    | none => exact absurd q this
    | some o => rw [e b o q]; exact fun z => by cases z
  s0 := s.s0
  there := fun b h => by
    have := s.there b h
    cases q : H b with
    | none => exact absurd q this
    | some o => rw [e b o q]; exact fun z => by cases z
  ap := s.ap
  as := s.as.trans (msk_mono e)
theorem Le.grow (e : Same H H') : Le F ls own H ls own H' := ⟨List.prefix_rfl, msk_mono e⟩
theorem same_new {p : Addr} {o : HO} (h : H p = none) : Same H (upd H p o) := fun b u e => by rw [upd_ne (ne_of_none e h)]; exact e
/-- a new object is seen -/
theorem St0.seen (s : St0 K F ls own H) {p : Addr} {o : HO} (hp : H p = none) : (F.g ls own (upd H p o)) p = some o := by
  have hn : p ∉ F.S0 ++ live ls own := fun z => s.hid p z hp
  show (msk (F.S0 ++ live ls own) (upd H p o)) p = some o
  rw [msk_out hn, upd_same]
end

/-! ### the names -/
def SR1 (K : PySem.W.Frag) (ls : List Addr) (G : Hp) : Option R → Option V → Prop
  | none, _ => True
  | some r, some v => RRep K ls G r v
  | some _, none => False
abbrev SRep (K : PySem.W.Frag) (ls : List Addr) (G : Hp) : List (Option R) → L2.St → Prop := Paired (SR1 K ls G)
section
variable {K : PySem.W.Frag} {F : Fm} {ls ls' : List Addr} {own own' : List Cell} {H H' G G' : Hp} {ρ : List (Option R)} {σ : L2.St}
theorem SRep.up (p : ls <+: ls') (e : Same G G') (h : SRep K ls G ρ σ) : SRep K ls' G' ρ σ := Paired.mapP h fun a b q => by
  cases a with
  | none => exact True.intro
  | some r =>
    cases b with
    | none => exact q.elim
    | some v => exact RRep.up p e q
theorem SRep.get : ∀ {ρ : List (Option R)} {σ : L2.St} {i : Nat} {r : R}, SRep K ls G ρ σ → ρ[i]? = some (some r) → ∃ v, σ[i]? = some (some v) ∧ RRep K ls G r v
  | _, _, i, r, .nil, e => by simp at e
  | _, _, 0, r, .cons (a := a) (b := b) h t, e => by
    simp at e
    subst e
    cases b with
    | none => exact h.elim
    | some v => exact ⟨v, rfl, h⟩
  | _, _, i + 1, r, .cons h t, e => by
    obtain ⟨v, e1, e2⟩ := SRep.get (i := i) (r := r) t (by simpa using e)
    exact ⟨v, by simpa using e1, e2⟩
theorem SRep.set {r : R} {v : V} (q : RRep K ls G r v) : ∀ {ρ : List (Option R)} {σ : L2.St} (i : Nat), SRep K ls G ρ σ → SRep K ls G (ρ.set i (some r)) (σ.set i (some v))
  | _, _, _, .nil => .nil
  | _, _, 0, .cons _ t => .cons q t
  | _, _, i + 1, .cons h t => .cons h (SRep.set q i t)
end
end DL

namespace DL
open PySem PySem.Spec PyProof.Rows L2

/-! ### judgements over data -/
abbrev QE := List Cell → R → Prop
abbrev QA := List Cell → List R → Prop
abbrev QT := List Cell → Bool → Prop
abbrev Ro := List (Option R)
/-- what a value's continuation is handed -/
def KV' (X : Cx) (F : Fm) (ls : List Addr) (own : List Cell) (H : Hp) (Q : QE) (Qv : VK) : Prop :=
  ∀ ls' own' H' r v, Le F ls own H ls' own' H' → St0 X.K F ls' own' H' → RRep X.K ls' (F.g ls' own' H') r v → Q own' r → Qv v H'
structure E (X : Cx) (F : Fm) (e : Expr) (Q : QE) (own : List Cell) (ρ : Ro)  : Prop where
  mk :: (run : ∀ ls σ H, St0 X.K F ls own H → SRep X.K ls (F.g ls own H) ρ σ → ∀ Qv : VK, KV' X F ls own H Q Qv → we X e σ H Qv)
instance {X : Cx} {F : Fm} {e : Expr} {Q : QE} {own : List Cell} {ρ : Ro}  : CoeFun (E X F e Q own ρ) (fun _ => ∀ ls σ H, St0 X.K F ls own H → SRep X.K ls (F.g ls own H) ρ σ → ∀ Qv : VK, KV' X F ls own H Q Qv → we X e σ H Qv) := ⟨E.run⟩
structure A (X : Cx) (F : Fm) (es : List Expr) (Q : QA) (own : List Cell) (ρ : Ro)  : Prop where
  mk :: (run : ∀ ls σ H, St0 X.K F ls own H → SRep X.K ls (F.g ls own H) ρ σ → ∀ Qv : List V → Hp → Prop,
    (∀ ls' own' H' rs vs, Le F ls own H ls' own' H' → St0 X.K F ls' own' H' → RReps X.K ls' (F.g ls' own' H') rs vs → Q own' rs → Qv vs H') → wa X es σ H Qv)
instance {X : Cx} {F : Fm} {es : List Expr} {Q : QA} {own : List Cell} {ρ : Ro}  : CoeFun (A X F es Q own ρ) (fun _ => ∀ ls σ H, St0 X.K F ls own H → SRep X.K ls (F.g ls own H) ρ σ → ∀ Qv : List V → Hp → Prop,
    (∀ ls' own' H' rs vs, Le F ls own H ls' own' H' → St0 X.K F ls' own' H' → RReps X.K ls' (F.g ls' own' H') rs vs → Q own' rs → Qv vs H') → wa X es σ H Qv) := ⟨A.run⟩
/-- operations by their names -/
inductive Opk where
  | bin (o : Operator) | cmp (o : CmpOp) | aug (o : Operator)
def Opk.f : Opk → Value → Value → Sem Value
  | .bin o => binaryOp o
  | .cmp o => compareOp o
  | .aug o => inplaceOp o
/-- a two-place operation on values -/
structure O2 (X : Cx) (F : Fm) (f : Opk) (x y : R) (Q : QE) (own : List Cell)  : Prop where
  mk :: (run : ∀ ls H u v, St0 X.K F ls own H → RRep X.K ls (F.g ls own H) x u → RRep X.K ls (F.g ls own H) y v → ∀ Qv : VK, KV' X F ls own H Q Qv → wop X f.f u v H Qv)
instance {X : Cx} {F : Fm} {f : Opk} {x y : R} {Q : QE} {own : List Cell}  : CoeFun (O2 X F f x y Q own) (fun _ => ∀ ls H u v, St0 X.K F ls own H → RRep X.K ls (F.g ls own H) x u → RRep X.K ls (F.g ls own H) y v → ∀ Qv : VK, KV' X F ls own H Q Qv → wop X f.f u v H Qv) := ⟨O2.run⟩
structure O1 (X : Cx) (F : Fm) (f : UnaryOp) (x : R) (Q : QE) (own : List Cell)  : Prop where
  mk :: (run : ∀ ls H u, St0 X.K F ls own H → RRep X.K ls (F.g ls own H) x u → ∀ Qv : VK, KV' X F ls own H Q Qv → wun X (unaryOp f) u H Qv)
instance {X : Cx} {F : Fm} {f : UnaryOp} {x : R} {Q : QE} {own : List Cell}  : CoeFun (O1 X F f x Q own) (fun _ => ∀ ls H u, St0 X.K F ls own H → RRep X.K ls (F.g ls own H) x u → ∀ Qv : VK, KV' X F ls own H Q Qv → wun X (unaryOp f) u H Qv) := ⟨O1.run⟩
/-- the call of a value that is known -/
structure Cl (X : Cx) (F : Fm) (f : Value) (rs : List R) (Q : QE) (own : List Cell)  : Prop where
  mk :: (run : ∀ ls H vs, St0 X.K F ls own H → RReps X.K ls (F.g ls own H) rs vs → ∀ Qv : VK, KV' X F ls own H Q Qv → wcall X f vs H Qv)
instance {X : Cx} {F : Fm} {f : Value} {rs : List R} {Q : QE} {own : List Cell}  : CoeFun (Cl X F f rs Q own) (fun _ => ∀ ls H vs, St0 X.K F ls own H → RReps X.K ls (F.g ls own H) rs vs → ∀ Qv : VK, KV' X F ls own H Q Qv → wcall X f vs H Qv) := ⟨Cl.run⟩
structure T (X : Cx) (F : Fm) (e : Expr) (Q : QT) (own : List Cell) (ρ : Ro)  : Prop where
  mk :: (run : ∀ ls σ H, St0 X.K F ls own H → SRep X.K ls (F.g ls own H) ρ σ → ∀ Qb : Bool → Hp → Prop,
    (∀ ls' own' H' b, Le F ls own H ls' own' H' → St0 X.K F ls' own' H' → Q own' b → Qb b H') → wt X e σ H Qb)
instance {X : Cx} {F : Fm} {e : Expr} {Q : QT} {own : List Cell} {ρ : Ro}  : CoeFun (T X F e Q own ρ) (fun _ => ∀ ls σ H, St0 X.K F ls own H → SRep X.K ls (F.g ls own H) ρ σ → ∀ Qb : Bool → Hp → Prop,
    (∀ ls' own' H' b, Le F ls own H ls' own' H' → St0 X.K F ls' own' H' → Q own' b → Qb b H') → wt X e σ H Qb) := ⟨T.run⟩
structure Tw (X : Cx) (F : Fm) (e : Expr) (Q : QT) (own : List Cell) (ρ : Ro)  : Prop where
  mk :: (run : ∀ ls σ H, St0 X.K F ls own H → SRep X.K ls (F.g ls own H) ρ σ → ∀ Qb : Bool → Hp → Prop,
    (∀ ls' own' H' b, Le F ls own H ls' own' H' → St0 X.K F ls' own' H' → Q own' b → Qb b H') → ww X e σ H Qb)
instance {X : Cx} {F : Fm} {e : Expr} {Q : QT} {own : List Cell} {ρ : Ro}  : CoeFun (Tw X F e Q own ρ) (fun _ => ∀ ls σ H, St0 X.K F ls own H → SRep X.K ls (F.g ls own H) ρ σ → ∀ Qb : Bool → Hp → Prop,
    (∀ ls' own' H' b, Le F ls own H ls' own' H' → St0 X.K F ls' own' H' → Q own' b → Qb b H') → ww X e σ H Qb) := ⟨Tw.run⟩
/-- a value's truth -/
structure Tr (X : Cx) (F : Fm) (x : R) (Q : QT) (own : List Cell)  : Prop where
  mk :: (run : ∀ ls H u, St0 X.K F ls own H → RRep X.K ls (F.g ls own H) x u → ∀ Qb : Bool → Hp → Prop,
    (∀ ls' own' H' b, Le F ls own H ls' own' H' → St0 X.K F ls' own' H' → Q own' b → Qb b H') → wtr X u H Qb)
instance {X : Cx} {F : Fm} {x : R} {Q : QT} {own : List Cell}  : CoeFun (Tr X F x Q own) (fun _ => ∀ ls H u, St0 X.K F ls own H → RRep X.K ls (F.g ls own H) x u → ∀ Qb : Bool → Hp → Prop,
    (∀ ls' own' H' b, Le F ls own H ls' own' H' → St0 X.K F ls' own' H' → Q own' b → Qb b H') → wtr X u H Qb) := ⟨Tr.run⟩

/-! ### statements -/
structure Po where
  nx : List Cell → Ro → Prop
  rt : List Cell → R → Prop
  bk : List Cell → Ro → Prop := fun _ _ => False
  ct : List Cell → Ro → Prop := fun _ _ => False
structure EndsOk (X : Cx) (F : Fm) (ls : List Addr) (own : List Cell) (H : Hp) (P : Po) (De : Ends) : Prop where
  nx : ∀ ls' own' H' ρ σ, Le F ls own H ls' own' H' → St0 X.K F ls' own' H' → SRep X.K ls' (F.g ls' own' H') ρ σ → P.nx own' ρ → De.nx σ H'
  rt : ∀ ls' own' H' r v, Le F ls own H ls' own' H' → St0 X.K F ls' own' H' → RRep X.K ls' (F.g ls' own' H') r v → P.rt own' r → De.rt v H'
  bk : ∀ ls' own' H' ρ σ, Le F ls own H ls' own' H' → St0 X.K F ls' own' H' → SRep X.K ls' (F.g ls' own' H') ρ σ → P.bk own' ρ → De.bk σ H'
  ct : ∀ ls' own' H' ρ σ, Le F ls own H ls' own' H' → St0 X.K F ls' own' H' → SRep X.K ls' (F.g ls' own' H') ρ σ → P.ct own' ρ → De.ct σ H'
structure W1 (X : Cx) (F : Fm) (st : Stmt) (P : Po) (own : List Cell) (ρ : Ro)  : Prop where
  mk :: (run : ∀ ls σ H, St0 X.K F ls own H → SRep X.K ls (F.g ls own H) ρ σ → ∀ De, EndsOk X F ls own H P De → ws1 X st De σ H)
instance {X : Cx} {F : Fm} {st : Stmt} {P : Po} {own : List Cell} {ρ : Ro}  : CoeFun (W1 X F st P own ρ) (fun _ => ∀ ls σ H, St0 X.K F ls own H → SRep X.K ls (F.g ls own H) ρ σ → ∀ De, EndsOk X F ls own H P De → ws1 X st De σ H) := ⟨W1.run⟩
structure W (X : Cx) (F : Fm) (sts : List Stmt) (P : Po) (own : List Cell) (ρ : Ro)  : Prop where
  mk :: (run : ∀ ls σ H, St0 X.K F ls own H → SRep X.K ls (F.g ls own H) ρ σ → ∀ De, EndsOk X F ls own H P De → ws X sts De σ H)
instance {X : Cx} {F : Fm} {sts : List Stmt} {P : Po} {own : List Cell} {ρ : Ro}  : CoeFun (W X F sts P own ρ) (fun _ => ∀ ls σ H, St0 X.K F ls own H → SRep X.K ls (F.g ls own H) ρ σ → ∀ De, EndsOk X F ls own H P De → ws X sts De σ H) := ⟨W.run⟩
/-- the target of an assignment -/
def wpg (X : Cx) (tg : Expr) : TG := fun v σ H Q => ∀ pins s u, Inv X pins σ H s → RelV v u → wpAny (model X.prog X.w) X.A (assign tg X.env u) (fun _ s' => ∃ σ' H', Inv X pins σ' H' s' ∧ Q σ' H') X.xe s

theorem EndsOk.up {X : Cx} {F : Fm} {ls ls' : List Addr} {own own' : List Cell} {H H' : Hp} {P : Po} {De : Ends} (le : Le F ls own H ls' own' H') (h : EndsOk X F ls own H P De) : EndsOk X F ls' own' H' P De :=
  ⟨fun _ _ _ _ _ l => h.nx _ _ _ _ _ (le.trans l), fun _ _ _ _ _ l => h.rt _ _ _ _ _ (le.trans l), fun _ _ _ _ _ l => h.bk _ _ _ _ _ (le.trans l), fun _ _ _ _ _ l => h.ct _ _ _ _ _ (le.trans l)⟩

section
variable {X : Cx} {F : Fm} {own : List Cell} {ρ : Ro} {Q : QE} {QA : QA} {QT : QT} {a b c e : Expr} {es : List Expr} {pos : Pos}

/-! ### expressions -/
theorem E.mono {Q' : QE} (k : ∀ o r, Q o r → Q' o r) (h : E X F e Q own ρ) : E X F e Q' own ρ := .mk fun ls σ H st sr Qv kk => h ls σ H st sr Qv fun _ _ _ _ _ l s r q => kk _ _ _ _ _ l s r (k _ _ q)
theorem E.var (i : Nat) {x : Str} {r : R} (hr : ρ[i]? = some (some r)) (h : Q own r) (hN : X.N[i]? = some x := by rfl) (hv : Vis X.env.scope x := by first | exact Or.inl rfl | exact Or.inr (Or.inl rfl) | exact Or.inr (Or.inr rfl)) (hd : (x == ("__debug__" : Str)) = false := by decide)
    (hcd : (x == ("__classdict__" : Str)) = false := by decide) : E X F (.Name x pos) Q own ρ := by
  constructor
  intro ls σ H st sr Qv k
  obtain ⟨v, e1, rv⟩ := sr.get hr
  exact (pe_var hN hv hd hcd).to ⟨v, e1, k _ _ _ r v Le.refl st rv h⟩
theorem E.int {i j} (h : Q own (.d (.int i))) : E X F (.Constant (.int i) j pos) Q own ρ := .mk fun ls σ H st sr Qv k => pe_int.to (k _ _ _ (.d (.int i)) _ Le.refl st (by simp only [RRep, Rep]) h)
theorem E.bl {b j} (h : Q own (.d (.bl b))) : E X F (.Constant (.bool b) j pos) Q own ρ := .mk fun ls σ H st sr Qv k => pe_bl.to (k _ _ _ (.d (.bl b)) _ Le.refl st (by simp only [RRep, Rep]) h)
theorem E.non {j} (h : Q own (.d .non)) : E X F (.Constant .none j pos) Q own ρ := .mk fun ls σ H st sr Qv k => pe_non.to (k _ _ _ (.d .non) _ Le.refl st (by simp only [RRep, Rep]) h)
theorem E.str {x j} (h : Q own (.d (.str x))) : E X F (.Constant (.str x) j pos) Q own ρ := .mk fun ls σ H st sr Qv k => pe_str.to (k _ _ _ (.d (.str x)) _ Le.refl st (by simp only [RRep, Rep]) h)
/-- a constant of the module -/
theorem E.globI {x : Str} {i : Int} {t : Tok} (hm : X.mg x = some (.int i t)) (h : Q own (.d (.int i))) (hg : Gl X x := by rfl) (hd : (x == ("__debug__" : Str)) = false := by decide) : E X F (.Name x pos) Q own ρ :=
  .mk fun ls σ H st sr Qv k => (pe_glob (v := .int i) hg hm ⟨t, rfl⟩ hd).to (k _ _ _ (.d (.int i)) _ Le.refl st (by simp only [RRep, Rep]) h)
theorem E.globS {x s : Str} {t : Tok} (hm : X.mg x = some (.str s t)) (h : Q own (.d (.str s))) (hg : Gl X x := by rfl) (hd : (x == ("__debug__" : Str)) = false := by decide) : E X F (.Name x pos) Q own ρ :=
  .mk fun ls σ H st sr Qv k => (pe_glob (v := .str s) hg hm ⟨t, rfl⟩ hd).to (k _ _ _ (.d (.str s)) _ Le.refl st (by simp only [RRep, Rep]) h)
/-- a class or a def of the module -/
theorem E.globR {x : Str} {p : Addr} (hm : X.mg x = some (.ref p)) (h : Q own (.d (.ref p))) (hg : Gl X x := by rfl) (hd : (x == ("__debug__" : Str)) = false := by decide) : E X F (.Name x pos) Q own ρ :=
  .mk fun ls σ H st sr Qv k => (pe_glob (v := .ref p) hg hm rfl hd).to (k _ _ _ (.d (.ref p)) _ Le.refl st (by simp only [RRep, Rep]) h)
/-- a built-in class by its name -/
theorem E.bty {x : Str} {n : String} (hm : X.mg x = none) (hv : bootBuiltins x = some (.type n)) (h : Q own (.d (.ty n))) (hg : Gl X x := by rfl) (hn : x ≠ "__name__" := by decide) (hd : (x == ("__debug__" : Str)) = false := by decide) : E X F (.Name x pos) Q own ρ :=
  .mk fun ls σ H st sr Qv k => (pe_bltn (v := .ty n) hg hm hv rfl hn hd).to (k _ _ _ (.d (.ty n)) _ Le.refl st (by simp only [RRep, Rep]) h)
theorem E.bin {op : Operator} (h : E X F a (fun o x => E X F b (fun o2 y => O2 X F (.bin op) x y Q o2) o ρ) own ρ) : E X F (.BinOp a op b pos) Q own ρ := by
  constructor
  intro ls σ H st sr Qv k
  refine (pe_op opr_wop pe_we pe_we).to ?_
  refine h ls σ H st sr _ fun ls1 own1 H1 x u l1 s1 rx hb => ?_
  refine hb ls1 σ H1 s1 (sr.up l1.pre l1.same) _ fun ls2 own2 H2 y v l2 s2 ry ho => ?_
  exact ho ls2 H2 u v s2 (rx.up l2.pre l2.same) ry Qv fun _ _ _ _ _ l3 => k _ _ _ _ _ ((l1.trans l2).trans l3)
theorem E.un {op : UnaryOp} (h : E X F a (fun o x => O1 X F op x Q o) own ρ) : E X F (.UnaryOp op a pos) Q own ρ := by
  constructor
  intro ls σ H st sr Qv k
  refine (pe_un unr_wun pe_we).to ?_
  refine h ls σ H st sr _ fun ls1 own1 H1 x u l1 s1 rx ho => ?_
  exact ho ls1 H1 u s1 rx Qv fun _ _ _ _ _ l3 => k _ _ _ _ _ (l1.trans l3)
/-- one comparison as a value -/
theorem E.cmp {op : CmpOp} (h : E X F a (fun o x => E X F b (fun o2 y => O2 X F (.cmp op) x y Q o2) o ρ) own ρ) (hm : behindInMarks op b = false := by first | exact nomark _ | rfl | with_unfolding_all rfl) : E X F (.Compare a [op] [b] pos) Q own ρ := by
  constructor
  intro ls σ H st sr Qv k
  refine (pe_cmpR opr_wop pe_we pe_we hm).to ?_
  refine h ls σ H st sr _ fun ls1 own1 H1 x u l1 s1 rx hb => ?_
  refine hb ls1 σ H1 s1 (sr.up l1.pre l1.same) _ fun ls2 own2 H2 y v l2 s2 ry ho => ?_
  exact ho ls2 H2 u v s2 (rx.up l2.pre l2.same) ry Qv fun _ _ _ _ _ l3 => k _ _ _ _ _ ((l1.trans l2).trans l3)
theorem T.cmp {op : CmpOp} (h : E X F a (fun o x => E X F b (fun o2 y => O2 X F (.cmp op) x y (fun o3 z => ∃ k, z = .d (.bl k) ∧ QT o3 k) o2) o ρ) own ρ) (hm : behindInMarks op b = false := by first | exact nomark _ | rfl | with_unfolding_all rfl) : T X F (.Compare a [op] [b] pos) QT own ρ := by
  constructor
  intro ls σ H st sr Qv k
  refine (pt_cmpR opr_wop pe_we pe_we hm).to ?_
  refine h ls σ H st sr _ fun ls1 own1 H1 x u l1 s1 rx hb => ?_
  refine hb ls1 σ H1 s1 (sr.up l1.pre l1.same) _ fun ls2 own2 H2 y v l2 s2 ry ho => ?_
  refine ho ls2 H2 u v s2 (rx.up l2.pre l2.same) ry _ fun _ _ _ r w l3 s3 rr ⟨kk, ez, q⟩ => ?_
  subst ez
  have rr' : w = V.bl kk := by simpa only [RRep, Rep] using rr
  exact ⟨kk, rr', k _ _ _ kk ((l1.trans l2).trans l3) s3 q⟩
/-- a test that is a value's truth -/
theorem T.truth (h : E X F a (fun o x => Tr X F x QT o) own ρ) (he : ∀ whole, isTrue a X.env whole = (do let v ← whole; standAt a.pos; holding [v] (truthy v)) := by intro _; rfl) : T X F a QT own ρ := by
  constructor
  intro ls σ H st sr Qv k
  refine (pt_truthR pe_we tru_w he).to ?_
  refine h ls σ H st sr _ fun ls1 own1 H1 x u l1 s1 rx ho => ?_
  exact ho ls1 H1 u s1 rx Qv fun _ _ _ _ l3 => k _ _ _ _ (l1.trans l3)
theorem Tr.bl {b : Bool} (h : QT own b) : Tr X F (.d (.bl b)) QT own := .mk fun ls H u st rx Qb k => by
  have e : u = V.bl b := by simpa only [RRep, Rep] using rx
  subst e
  exact fun pins σ s v I rv => by cases rv; exact wpAny_truthy_bool ⟨H, I, k _ _ _ b Le.refl st h⟩
theorem T.not (h : T X F a (fun o b => QT o (!b)) own ρ) : T X F (.UnaryOp .Not a pos) QT own ρ := .mk fun ls σ H st sr Qb k =>
  (pt_not pt_wt).to (h ls σ H st sr _ fun _ _ _ b l s q => k _ _ _ _ l s q)
theorem Tw.t (h : Tw X F a QT own ρ) : T X F a QT own ρ := .mk fun ls σ H st sr Qb k => (PW.pt pw_ww).to (h ls σ H st sr Qb k)
theorem Tw.and1 (h : T X F a QT own ρ) : Tw X F (.BoolOp .And [a] pos) QT own ρ := .mk fun ls σ H st sr Qb k => (pw_and1 pt_wt).to (h ls σ H st sr Qb k)
theorem Tw.or1 (h : T X F a QT own ρ) : Tw X F (.BoolOp .Or [a] pos) QT own ρ := .mk fun ls σ H st sr Qb k => (pw_or1 pt_wt).to (h ls σ H st sr Qb k)
theorem Tw.and (h : T X F a (fun o k => if k = true then Tw X F (.BoolOp .And (b :: es) pos) QT o ρ else QT o false) own ρ) : Tw X F (.BoolOp .And (a :: b :: es) pos) QT own ρ := by
  constructor
  intro ls σ H st sr Qb k
  refine (pw_and pt_wt pw_ww).to ?_
  refine h ls σ H st sr _ fun ls1 own1 H1 kb l1 s1 q => ?_
  cases kb with
  | true =>
    refine iteT ?_
    exact (show Tw X F _ QT own1 ρ from q) ls1 σ H1 s1 (sr.up l1.pre l1.same) Qb fun _ _ _ _ l3 => k _ _ _ _ (l1.trans l3)
  | false => exact iteF (k _ _ _ _ l1 s1 q)
theorem Tw.or (h : T X F a (fun o k => if k = true then QT o true else Tw X F (.BoolOp .Or (b :: es) pos) QT o ρ) own ρ) : Tw X F (.BoolOp .Or (a :: b :: es) pos) QT own ρ := by
  constructor
  intro ls σ H st sr Qb k
  refine (pw_or pt_wt pw_ww).to ?_
  refine h ls σ H st sr _ fun ls1 own1 H1 kb l1 s1 q => ?_
  cases kb with
  | false =>
    refine iteF ?_
    exact (show Tw X F _ QT own1 ρ from q) ls1 σ H1 s1 (sr.up l1.pre l1.same) Qb fun _ _ _ _ l3 => k _ _ _ _ (l1.trans l3)
  | true => exact iteT (k _ _ _ _ l1 s1 q)
/-- a and b, a or b, not a as values, all but the last a truth value -/
theorem E.one {op} (h : E X F a Q own ρ) : E X F (.BoolOp op [a] pos) Q own ρ := .mk fun ls σ H st sr Qv k => (pe_one pe_we).to (h ls σ H st sr Qv k)
theorem E.and (h : E X F a (fun o x => ∃ k, x = .d (.bl k) ∧ if k = true then E X F (.BoolOp .And (b :: es) pos) Q o ρ else Q o (.d (.bl false))) own ρ) : E X F (.BoolOp .And (a :: b :: es) pos) Q own ρ := by
  constructor
  intro ls σ H st sr Qv k
  refine (pe_and pe_we pe_we).to ?_
  refine h ls σ H st sr _ fun ls1 own1 H1 x u l1 s1 rx ⟨kb, ex, q⟩ => ?_
  subst ex
  refine ⟨kb, by simpa only [RRep, Rep] using rx, ?_⟩
  cases kb with
  | true =>
    refine iteT ?_
    exact (show E X F _ Q own1 ρ from q) ls1 σ H1 s1 (sr.up l1.pre l1.same) Qv fun _ _ _ _ _ l3 => k _ _ _ _ _ (l1.trans l3)
  | false => exact iteF (k _ _ _ (.d (.bl false)) _ l1 s1 (by simp only [RRep, Rep]) q)
theorem E.or (h : E X F a (fun o x => ∃ k, x = .d (.bl k) ∧ if k = true then Q o (.d (.bl true)) else E X F (.BoolOp .Or (b :: es) pos) Q o ρ) own ρ) : E X F (.BoolOp .Or (a :: b :: es) pos) Q own ρ := by
  constructor
  intro ls σ H st sr Qv k
  refine (pe_or pe_we pe_we).to ?_
  refine h ls σ H st sr _ fun ls1 own1 H1 x u l1 s1 rx ⟨kb, ex, q⟩ => ?_
  subst ex
  refine ⟨kb, by simpa only [RRep, Rep] using rx, ?_⟩
  cases kb with
  | false =>
    refine iteF ?_
    exact (show E X F _ Q own1 ρ from q) ls1 σ H1 s1 (sr.up l1.pre l1.same) Qv fun _ _ _ _ _ l3 => k _ _ _ _ _ (l1.trans l3)
  | true => exact iteT (k _ _ _ (.d (.bl true)) _ l1 s1 (by simp only [RRep, Rep]) q)
theorem E.not (h : E X F a (fun o x => ∃ k, x = .d (.bl k) ∧ Q o (.d (.bl (!k)))) own ρ) : E X F (.UnaryOp .Not a pos) Q own ρ := by
  constructor
  intro ls σ H st sr Qv k
  refine (pe_not pe_we).to ?_
  refine h ls σ H st sr _ fun ls1 own1 H1 x u l1 s1 rx ⟨kb, ex, q⟩ => ?_
  subst ex
  exact ⟨kb, by simpa only [RRep, Rep] using rx, k _ _ _ (.d (.bl (!kb))) _ l1 s1 (by simp only [RRep, Rep]) q⟩
theorem E.ifExp (h : T X F c (fun o k => if k = true then E X F a Q o ρ else E X F b Q o ρ) own ρ) : E X F (.IfExp c a b pos) Q own ρ := by
  constructor
  intro ls σ H st sr Qv k
  refine (pe_ifExp pt_wt pe_we pe_we).to ?_
  refine h ls σ H st sr _ fun ls1 own1 H1 kb l1 s1 q => ?_
  cases kb with
  | true => exact iteT ((show E X F a Q own1 ρ from q) ls1 σ H1 s1 (sr.up l1.pre l1.same) Qv fun _ _ _ _ _ l3 => k _ _ _ _ _ (l1.trans l3))
  | false => exact iteF ((show E X F b Q own1 ρ from q) ls1 σ H1 s1 (sr.up l1.pre l1.same) Qv fun _ _ _ _ _ l3 => k _ _ _ _ _ (l1.trans l3))

/-! ### argument lists, displays -/
theorem A.nil (h : QA own []) : A X F [] QA own ρ := .mk fun ls σ H st sr Qv k => pa_nil.to (k _ _ _ [] [] Le.refl st .nil h)
theorem A.cons (h : E X F e (fun o r => A X F es (fun o2 rs => QA o2 (r :: rs)) o ρ) own ρ) (hs : starEach (e :: es) X.env = (false, eval e X.env) :: starEach es X.env := by rfl) : A X F (e :: es) QA own ρ := by
  constructor
  intro ls σ H st sr Qv k
  refine (pa_cons pe_we pa_wa hs).to ?_
  refine h ls σ H st sr _ fun ls1 own1 H1 x u l1 s1 rx hb => ?_
  exact hb ls1 σ H1 s1 (sr.up l1.pre l1.same) _ fun ls2 own2 H2 rs vs l2 s2 rr q => k _ _ _ (x :: rs) (u :: vs) (l1.trans l2) s2 (.cons (rx.up l2.pre l2.same) rr) q
theorem E.tup {k0} (h : A X F es (fun o rs => ∃ ds : List D, rs = ds.map R.d ∧ ds.length ≤ sizeLine ∧ Q o (.d (.tup ds))) own ρ) : E X F (.Tuple es k0 pos) Q own ρ := by
  constructor
  intro ls σ H st sr Qv k
  refine (pe_tup pa_wa).to ?_
  refine h ls σ H st sr _ fun ls1 own1 H1 rs vs l1 s1 rr ⟨ds, er, hl, q⟩ => ?_
  subst er
  have rd := RReps.toD rr
  refine ⟨by rw [← rd.length]; exact hl, fun p hp => ?_⟩
  refine k _ _ _ (.d (.tup ds)) _ (l1.trans (Le.grow (same_new hp))) (s1.grow (same_new hp)) ?_ q
  simp only [RRep, Rep]
  exact ⟨p, vs, rfl, .inl (.inl (s1.seen hp)), Reps.mono (msk_mono (same_new hp)) rd⟩
theorem E.lst (h : A X F es (fun o rs => ∃ ds : List D, rs = ds.map R.d ∧ ds.length ≤ sizeLine ∧ Q o (.d (.lst ds))) own ρ) : E X F (.List es pos) Q own ρ := by
  constructor
  intro ls σ H st sr Qv k
  refine (pe_lst pa_wa).to ?_
  refine h ls σ H st sr _ fun ls1 own1 H1 rs vs l1 s1 rr ⟨ds, er, hl, q⟩ => ?_
  subst er
  have rd := RReps.toD rr
  refine ⟨by rw [← rd.length]; exact hl, fun p hp => ?_⟩
  refine k _ _ _ (.d (.lst ds)) _ (l1.trans (Le.grow (same_new hp))) (s1.grow (same_new hp)) ?_ q
  simp only [RRep, Rep]
  exact ⟨p, vs, rfl, s1.seen hp, Reps.mono (msk_mono (same_new hp)) rd⟩

/-! ### calls of built-ins -/
theorem E.callB {x : Str} {p : Pos} {id : String} (hm : X.mg x = none) (hv : bootBuiltins x = some (.builtin id)) (h : A X F (e :: es) (fun o rs => Cl X F (.builtin id) rs Q o) own ρ) (hg : Gl X x := by rfl) (hn : x ≠ "__name__" := by decide) (hdb : (x == ("__debug__" : Str)) = false := by decide)
    (he : starEach (e :: es) X.env = (false, eval e X.env) :: starEach es X.env := by rfl) (hpl : (backTo pos (starEach es X.env)).any (·.1) = false := by rfl) : E X F (.Call (.Name x p) (e :: es) [] pos) Q own ρ := by
  constructor
  intro ls σ H st sr Qv k
  refine (pe_callB callr_w hg hm hv pa_wa hn hdb he hpl).to ?_
  exact h ls σ H st sr _ fun ls1 own1 H1 rs vs l1 s1 rr q => q ls1 H1 vs s1 rr Qv fun _ _ _ _ _ l3 => k _ _ _ _ _ (l1.trans l3)
theorem E.callTy {x : Str} {p : Pos} {n : String} (hm : X.mg x = none) (hv : bootBuiltins x = some (.type n)) (h : A X F (e :: es) (fun o rs => Cl X F (.type n) rs Q o) own ρ) (hg : Gl X x := by rfl) (hn : x ≠ "__name__" := by decide) (hdb : (x == ("__debug__" : Str)) = false := by decide)
    (he : starEach (e :: es) X.env = (false, eval e X.env) :: starEach es X.env := by rfl) (hpl : (backTo pos (starEach es X.env)).any (·.1) = false := by rfl) : E X F (.Call (.Name x p) (e :: es) [] pos) Q own ρ := by
  constructor
  intro ls σ H st sr Qv k
  refine (pe_callTy callr_w hg hm hv pa_wa hn hdb he hpl).to ?_
  exact h ls σ H st sr _ fun ls1 own1 H1 rs vs l1 s1 rr q => q ls1 H1 vs s1 rr Qv fun _ _ _ _ _ l3 => k _ _ _ _ _ (l1.trans l3)
/-- a built-in function that stands at a module's name -/
theorem E.callG {x : Str} {p : Pos} {id : String} (hm : X.mg x = some (.builtin id)) (h : A X F (e :: es) (fun o rs => Cl X F (.builtin id) rs Q o) own ρ) (hg : Gl X x := by rfl) (hdb : (x == ("__debug__" : Str)) = false := by decide)
    (he : starEach (e :: es) X.env = (false, eval e X.env) :: starEach es X.env := by rfl) (hpl : (backTo pos (starEach es X.env)).any (·.1) = false := by rfl) : E X F (.Call (.Name x p) (e :: es) [] pos) Q own ρ := by
  constructor
  intro ls σ H st sr Qv k
  refine (pe_callBfun callr_w hg hm pa_wa hdb he hpl).to ?_
  exact h ls σ H st sr _ fun ls1 own1 H1 rs vs l1 s1 rr q => q ls1 H1 vs s1 rr Qv fun _ _ _ _ _ l3 => k _ _ _ _ _ (l1.trans l3)

/-! ### statements -/
variable {P : Po} {st : Stmt} {sts rest : List Stmt}
theorem W.nil (h : P.nx own ρ) : W X F [] P own ρ := .mk fun ls σ H st sr De k => pss_nil.to (k.nx _ _ _ ρ σ Le.refl st sr h)
theorem W.cons (h : W1 X F st { P with nx := W X F rest P } own ρ) : W X F (st :: rest) P own ρ := by
  constructor
  intro ls σ H s0 sr De k
  refine (pss_cons ps_ws1 pss_ws).to ?_
  refine h ls σ H s0 sr { De with nx := ws X rest De } ⟨fun ls' own' H' ρ' σ' l s r q => ?_, fun _ _ _ _ _ l s r q => k.rt _ _ _ _ _ l s r q, fun _ _ _ _ _ l s r q => k.bk _ _ _ _ _ l s r q, fun _ _ _ _ _ l s r q => k.ct _ _ _ _ _ l s r q⟩
  exact (show W X F rest P own' ρ' from q) ls' σ' H' s r De (k.up l)
theorem W.one (h : W1 X F st P own ρ) : W X F [st] P own ρ := .mk fun ls σ H s0 sr De k => (pss_one ps_ws1).to (h ls σ H s0 sr De k)
theorem W1.pass (h : P.nx own ρ) : W1 X F (.Pass pos) P own ρ := .mk fun ls σ H st sr De k => ps_pass.to (k.nx _ _ _ ρ σ Le.refl st sr h)
theorem W1.brk (h : P.bk own ρ) : W1 X F (.Break pos) P own ρ := .mk fun ls σ H st sr De k => ps_break.to (k.bk _ _ _ ρ σ Le.refl st sr h)
theorem W1.cont (h : P.ct own ρ) : W1 X F (.Continue pos) P own ρ := .mk fun ls σ H st sr De k => ps_continue.to (k.ct _ _ _ ρ σ Le.refl st sr h)
theorem W1.expr (h : E X F e (fun o _ => P.nx o ρ) own ρ) (hs : swapsWith e none pos.line X.env = pure false := by rfl) : W1 X F (.Expr e pos) P own ρ := by
  constructor
  intro ls σ H s0 sr De k
  refine (ps_expr pe_we hs).to ?_
  exact h ls σ H s0 sr _ fun _ _ _ _ _ l s r q => k.nx _ _ _ ρ σ l s (sr.up l.pre l.same) q
theorem W1.ret (h : E X F e P.rt own ρ) : W1 X F (.Return (some e) pos) P own ρ := by
  constructor
  intro ls σ H s0 sr De k
  refine (ps_ret pe_we).to ?_
  exact h ls σ H s0 sr _ fun _ _ _ _ _ l s r q => k.rt _ _ _ _ _ l s r q
theorem W1.retN (h : P.rt own (.d .non)) : W1 X F (.Return none pos) P own ρ := .mk fun ls σ H s0 sr De k => ps_retN.to (k.rt _ _ _ (.d .non) _ Le.refl s0 (by simp only [RRep, Rep]) h)
theorem W1.iff {sa sb : List Stmt} (h : T X F c (fun o k => if k = true then W X F sa P o ρ else W X F sb P o ρ) own ρ) : W1 X F (.If c sa sb pos) P own ρ := by
  constructor
  intro ls σ H s0 sr De k
  refine (ps_if pt_wt pss_ws pss_ws).to ?_
  refine h ls σ H s0 sr _ fun ls1 own1 H1 kb l1 s1 q => ?_
  cases kb with
  | true => exact iteT ((show W X F sa P own1 ρ from q) ls1 σ H1 s1 (sr.up l1.pre l1.same) De (k.up l1))
  | false => exact iteF ((show W X F sb P own1 ρ from q) ls1 σ H1 s1 (sr.up l1.pre l1.same) De (k.up l1))
/-- x = e -/
theorem W1.set (i : Nat) {x : Str} {pos' : Pos} (h : E X F e (fun o r => P.nx o (ρ.set i (some r))) own ρ) (hN : X.N.Nodup) (hi : X.N[i]? = some x := by rfl) (hx : Loc X.env.scope x := by first | exact Or.inl rfl | exact Or.inr rfl) (hs : swapsWith e (some (.Name x pos')) pos.line X.env = pure false := by rfl) (hf : X.fn x = true ∨ X.env.scope.names.lookup x = some .local := by first | exact .inl rfl | exact .inr rfl | assumption) :
    W1 X F (.Assign [.Name x pos'] e pos) P own ρ := by
  constructor
  intro ls σ H s0 sr De k
  refine (ps_set hN hi hx pe_we hs hf).to ?_
  exact h ls σ H s0 sr _ fun _ _ _ r v l s rr q => k.nx _ _ _ _ _ l s (SRep.set rr i (sr.up l.pre l.same)) q
end
end DL

namespace DL
open PySem PySem.Spec PyProof.Rows L2
section
variable {X : Cx} {F : Fm} {own : List Cell} {ρ : Ro} {Q : QE} {QA : QA} {QT : QT} {i j : Int}

/-! ### ints -/
theorem rr_int {K ls G v} (h : RRep K ls G (.d (.int i)) v) : v = .int i := by simpa only [RRep, Rep] using h
theorem rr_str {K ls G v} {s : Str} (h : RRep K ls G (.d (.str s)) v) : v = .str s := by simpa only [RRep, Rep] using h
theorem rr_bl {K ls G v} {b : Bool} (h : RRep K ls G (.d (.bl b)) v) : v = .bl b := by simpa only [RRep, Rep] using h
theorem rr_non {K ls G v} (h : RRep K ls G (.d .non) v) : v = .non := by simpa only [RRep, Rep] using h
theorem rr_ty {K ls G v} {n : String} (h : RRep K ls G (.d (.ty n)) v) : v = .ty n := by simpa only [RRep, Rep] using h
theorem rr_ref {K ls G v} {n : Addr} (h : RRep K ls G (.d (.ref n)) v) : v = .ref n := by simpa only [RRep, Rep] using h
theorem ir_int {K ls G} : RRep K ls G (.d (.int i)) (.int i) := by simp only [RRep, Rep]
theorem ir_bl {K ls G} {b : Bool} : RRep K ls G (.d (.bl b)) (.bl b) := by simp only [RRep, Rep]
theorem ir_str {K ls G} {s : Str} : RRep K ls G (.d (.str s)) (.str s) := by simp only [RRep, Rep]
theorem ir_non {K ls G} : RRep K ls G (.d .non) .non := by simp only [RRep, Rep]
theorem O2.ofI {f : Opk} {C : Int → Int → Prop} {g : Int → Int → Int} (p : OpR X f.f (rI C fun i j => .int (g i j))) (hc : C i j) (h : Q own (.d (.int (g i j)))) : O2 X F f (.d (.int i)) (.d (.int j)) Q own := by
  constructor
  intro ls H u v st rx ry Qv k
  cases rr_int rx
  cases rr_int ry
  exact p.to ⟨i, j, rfl, rfl, hc, k _ _ _ _ _ Le.refl st ir_int h⟩
theorem O2.ofI0 {f : Opk} {g : Int → Int → Int} (p : OpR X f.f (rI0 fun i j => .int (g i j))) (h : Q own (.d (.int (g i j)))) : O2 X F f (.d (.int i)) (.d (.int j)) Q own := by
  constructor
  intro ls H u v st rx ry Qv k
  cases rr_int rx
  cases rr_int ry
  exact p.to ⟨i, j, rfl, rfl, k _ _ _ _ _ Le.refl st ir_int h⟩
theorem O2.ofB {f : Opk} {g : Int → Int → Bool} (p : OpR X f.f (rI0 fun i j => .bl (g i j))) (h : Q own (.d (.bl (g i j)))) : O2 X F f (.d (.int i)) (.d (.int j)) Q own := by
  constructor
  intro ls H u v st rx ry Qv k
  cases rr_int rx
  cases rr_int ry
  exact p.to ⟨i, j, rfl, rfl, k _ _ _ _ _ Le.refl st ir_bl h⟩
theorem O2.add (h : Q own (.d (.int (i + j)))) : O2 X F (.bin .Add) (.d (.int i)) (.d (.int j)) Q own := .ofI0 op_add h
theorem O2.sub (h : Q own (.d (.int (i - j)))) : O2 X F (.bin .Sub) (.d (.int i)) (.d (.int j)) Q own := .ofI0 op_sub h
theorem O2.mul (hc : CMulX i j) (h : Q own (.d (.int (i * j)))) : O2 X F (.bin .Mult) (.d (.int i)) (.d (.int j)) Q own := .ofI op_mulX hc h
/-- one factor is small -/
theorem O2.mulS (hc : CMul i j) (h : Q own (.d (.int (i * j)))) : O2 X F (.bin .Mult) (.d (.int i)) (.d (.int j)) Q own := .ofI op_mul hc h
theorem O2.mod (hc : 0 < j) (h : Q own (.d (.int (i % j)))) : O2 X F (.bin .Mod) (.d (.int i)) (.d (.int j)) Q own := .ofI (C := fun _ j => 0 < j) op_mod hc h
theorem O2.modN (hc : j ≠ 0) (h : Q own (.d (.int (i.fmod j)))) : O2 X F (.bin .Mod) (.d (.int i)) (.d (.int j)) Q own := .ofI (C := fun _ j => j ≠ 0) op_modN hc h
theorem O2.fdiv (hc : CDiv i j) (h : Q own (.d (.int (i / j)))) : O2 X F (.bin .FloorDiv) (.d (.int i)) (.d (.int j)) Q own := .ofI op_fdiv hc h
theorem O2.fdivW (hc : CDivW i j) (h : Q own (.d (.int (i / j)))) : O2 X F (.bin .FloorDiv) (.d (.int i)) (.d (.int j)) Q own := .ofI op_fdivW hc h
def CDivA (_ j : Int) : Prop := j ≠ 0 ∧ j.natAbs < 2 ^ 9000
theorem op_fdivA : OpR X (binaryOp .FloorDiv) (rI CDivA fun i j => .int (i.fdiv j)) := opI fun i j _ _ _ _ _ hc q => floordiv_int hc.1 q (.inl (PyProof.noPylong_of_log2 (by
  have h0 : j.natAbs ≠ 0 := by have := hc.1; omega
  exact (Nat.log2_lt h0).mpr hc.2)))
theorem O2.fdivA (hc : CDivA i j) (h : Q own (.d (.int (i.fdiv j)))) : O2 X F (.bin .FloorDiv) (.d (.int i)) (.d (.int j)) Q own := .ofI op_fdivA hc h
theorem O2.pow (hc : CPow i j) (h : Q own (.d (.int (i ^ j.toNat)))) : O2 X F (.bin .Pow) (.d (.int i)) (.d (.int j)) Q own := .ofI op_pow hc h
theorem O2.lt (h : Q own (.d (.bl (decide (i < j))))) : O2 X F (.cmp .Lt) (.d (.int i)) (.d (.int j)) Q own := .ofB op_lt h
theorem O2.le (h : Q own (.d (.bl (decide (i ≤ j))))) : O2 X F (.cmp .LtE) (.d (.int i)) (.d (.int j)) Q own := .ofB op_le h
theorem O2.gt (h : Q own (.d (.bl (decide (j < i))))) : O2 X F (.cmp .Gt) (.d (.int i)) (.d (.int j)) Q own := .ofB op_gt h
theorem O2.ge (h : Q own (.d (.bl (decide (j ≤ i))))) : O2 X F (.cmp .GtE) (.d (.int i)) (.d (.int j)) Q own := .ofB op_ge h
theorem dV_int : decide (V.int i = V.int j) = decide (i = j) := by
  by_cases e : i = j
  · subst e; simp
  · rw [decide_eq_false e, decide_eq_false]; exact fun z => e (by injection z)
theorem dV_bl {a b : Bool} : decide (V.bl a = V.bl b) = (a == b) := by cases a <;> cases b <;> rfl
theorem dV_str {a b : Str} : decide (V.str a = V.str b) = decide (a = b) := by
  by_cases e : a = b
  · subst e; simp
  · rw [decide_eq_false e, decide_eq_false]; exact fun z => e (by injection z)
theorem O2.eq (h : Q own (.d (.bl (decide (i = j))))) : O2 X F (.cmp .Eq) (.d (.int i)) (.d (.int j)) Q own := by
  constructor
  intro ls H u v st rx ry Qv k
  cases rr_int rx
  cases rr_int ry
  exact op_eq.to ⟨rfl, k _ _ _ (.d (.bl _)) _ Le.refl st ir_bl (by rw [dV_int]; exact h)⟩
theorem O2.ne (h : Q own (.d (.bl (!decide (i = j))))) : O2 X F (.cmp .NotEq) (.d (.int i)) (.d (.int j)) Q own := by
  constructor
  intro ls H u v st rx ry Qv k
  cases rr_int rx
  cases rr_int ry
  exact op_ne.to ⟨rfl, k _ _ _ (.d (.bl _)) _ Le.refl st ir_bl (by rw [dV_int]; exact h)⟩
theorem O2.eqB {a b : Bool} (h : Q own (.d (.bl (a == b)))) : O2 X F (.cmp .Eq) (.d (.bl a)) (.d (.bl b)) Q own := by
  constructor
  intro ls H u v st rx ry Qv k
  cases rr_bl rx
  cases rr_bl ry
  exact op_eq.to ⟨rfl, k _ _ _ (.d (.bl _)) _ Le.refl st ir_bl (by rw [dV_bl]; exact h)⟩
theorem O2.neB {a b : Bool} (h : Q own (.d (.bl (!(a == b))))) : O2 X F (.cmp .NotEq) (.d (.bl a)) (.d (.bl b)) Q own := by
  constructor
  intro ls H u v st rx ry Qv k
  cases rr_bl rx
  cases rr_bl ry
  exact op_ne.to ⟨rfl, k _ _ _ (.d (.bl _)) _ Le.refl st ir_bl (by rw [dV_bl]; exact h)⟩
theorem O2.eqS {a b : Str} (h : Q own (.d (.bl (decide (a = b))))) : O2 X F (.cmp .Eq) (.d (.str a)) (.d (.str b)) Q own := by
  constructor
  intro ls H u v st rx ry Qv k
  cases rr_str rx
  cases rr_str ry
  exact op_eq.to ⟨rfl, k _ _ _ (.d (.bl _)) _ Le.refl st ir_bl (by rw [dV_str]; exact h)⟩
theorem O2.neS {a b : Str} (h : Q own (.d (.bl (!decide (a = b))))) : O2 X F (.cmp .NotEq) (.d (.str a)) (.d (.str b)) Q own := by
  constructor
  intro ls H u v st rx ry Qv k
  cases rr_str rx
  cases rr_str ry
  exact op_ne.to ⟨rfl, k _ _ _ (.d (.bl _)) _ Le.refl st ir_bl (by rw [dV_str]; exact h)⟩
theorem O1.neg (h : Q own (.d (.int (-i)))) : O1 X F .USub (.d (.int i)) Q own := by
  constructor
  intro ls H u st rx Qv k
  cases rr_int rx
  exact un_neg.to ⟨i, rfl, k _ _ _ _ _ Le.refl st ir_int h⟩
/-! ### calls of built-ins -/
theorem rrs1 {K ls G} {a : R} {vs : List V} (h : RReps K ls G [a] vs) : ∃ v, vs = [v] ∧ RRep K ls G a v := by
  cases h with
  | cons h t => cases t; exact ⟨_, rfl, h⟩
theorem rrs2 {K ls G} {a b : R} {vs : List V} (h : RReps K ls G [a, b] vs) : ∃ v w, vs = [v, w] ∧ RRep K ls G a v ∧ RRep K ls G b w := by
  cases h with
  | cons h t =>
    obtain ⟨w, rfl, hw⟩ := rrs1 t
    exact ⟨_, _, rfl, h, hw⟩
theorem rrs3 {K ls G} {a b c : R} {vs : List V} (h : RReps K ls G [a, b, c] vs) : ∃ v w z, vs = [v, w, z] ∧ RRep K ls G a v ∧ RRep K ls G b w ∧ RRep K ls G c z := by
  cases h with
  | cons h t =>
    obtain ⟨w, z, rfl, hw, hz⟩ := rrs2 t
    exact ⟨_, _, _, rfl, h, hw, hz⟩
theorem Cl.abs (h : Q own (.d (.int (i.natAbs : Int)))) : Cl X F (.builtin "abs") [.d (.int i)] Q own := by
  constructor
  intro ls H vs st rr Qv k
  obtain ⟨v, rfl, rv⟩ := rrs1 rr
  cases rr_int rv
  refine call_abs.to ⟨i, rfl, k _ _ _ (.d (.int _)) _ Le.refl st ir_int ?_⟩
  have e : (if i < 0 then -i else i) = (i.natAbs : Int) := by split <;> omega
  rw [e]; exact h
theorem Cl.int (h : Q own (.d (.int i))) : Cl X F (.type "int") [.d (.int i)] Q own := by
  constructor
  intro ls H vs st rr Qv k
  obtain ⟨v, rfl, rv⟩ := rrs1 rr
  cases rr_int rv
  exact call_int1.to (.inl ⟨i, rfl, k _ _ _ (.d (.int i)) _ Le.refl st ir_int h⟩)
theorem Cl.boolI (h : Q own (.d (.bl (decide (i ≠ 0))))) : Cl X F (.type "bool") [.d (.int i)] Q own := by
  constructor
  intro ls H vs st rr Qv k
  obtain ⟨v, rfl, rv⟩ := rrs1 rr
  cases rr_int rv
  refine call_bool1.to (.inl ⟨i, rfl, k _ _ _ (.d (.bl _)) _ Le.refl st ir_bl ?_⟩)
  have e : (i != 0) = decide (i ≠ 0) := by by_cases z : i = 0 <;> simp [z]
  rw [e]; exact h
theorem Cl.max (hc : X.calm = true) (h : Q own (.d (.int (if i < j then j else i)))) : Cl X F (.builtin "max") [.d (.int i), .d (.int j)] Q own := by
  constructor
  intro ls H vs st rr Qv k
  obtain ⟨v, w, rfl, rv, rw'⟩ := rrs2 rr
  cases rr_int rv
  cases rr_int rw'
  exact (call_max2 hc).to ⟨i, j, rfl, k _ _ _ (.d (.int _)) _ Le.refl st ir_int h⟩
theorem Cl.min (hc : X.calm = true) (h : Q own (.d (.int (if j < i then j else i)))) : Cl X F (.builtin "min") [.d (.int i), .d (.int j)] Q own := by
  constructor
  intro ls H vs st rr Qv k
  obtain ⟨v, w, rfl, rv, rw'⟩ := rrs2 rr
  cases rr_int rv
  cases rr_int rw'
  exact (call_min2 hc).to ⟨i, j, rfl, k _ _ _ (.d (.int _)) _ Le.refl st ir_int h⟩
theorem Cl.gcd (h : Q own (.d (.int ((Nat.gcd i.natAbs j.natAbs : Nat) : Int)))) : Cl X F (.builtin "math.gcd") [.d (.int i), .d (.int j)] Q own := by
  constructor
  intro ls H vs st rr Qv k
  obtain ⟨v, w, rfl, rv, rw'⟩ := rrs2 rr
  cases rr_int rv
  cases rr_int rw'
  exact cr_gcd.to ⟨i, j, rfl, k _ _ _ (.d (.int _)) _ Le.refl st ir_int h⟩
theorem lst_rr {K ls G v} {ds : List D} (h : RRep K ls G (.d (.lst ds)) v) : ∃ p xs, v = .ref p ∧ G p = some (.lst xs) ∧ Reps K G ds xs := by simpa only [RRep, Rep] using h
theorem tup_rr {K ls G v} {ds : List D} (h : RRep K ls G (.d (.tup ds)) v) : ∃ p xs, v = .ref p ∧ SqT K G p xs ∧ Reps K G ds xs := by simpa only [RRep, Rep] using h
theorem ins_rr {K ls G v} {C : Addr} {ns : List Str} {ds : List D} (h : RRep K ls G (.d (.ins C ns ds)) v) : ∃ p dx xs, v = .ref p ∧ G p = some (.ins C dx (ns.zip xs)) ∧ ns.length = ds.length ∧ Reps K G ds xs := by simpa only [RRep, Rep] using h
theorem sq_h {K : PySem.W.Frag} {S : List Addr} {H : Hp} {p : Addr} {xs : List V} (h : msk S H p = some (.lst xs)) : SqL K H p xs := .inl (.inl (msk_same _ _ _ _ h))
theorem Cl.lenL {ds : List D} (h : Q own (.d (.int ds.length))) : Cl X F (.builtin "len") [.d (.lst ds)] Q own := by
  constructor
  intro ls H vs st rr Qv k
  obtain ⟨v, rfl, rv⟩ := rrs1 rr
  obtain ⟨p, xs, rfl, hs, hr⟩ := lst_rr rv
  refine call_len_seq.to ⟨p, xs, rfl, .inl (sq_h hs), k _ _ _ (.d (.int _)) _ Le.refl st ir_int ?_⟩
  rw [← hr.length]; exact h
theorem Cl.lenT {ds : List D} (h : Q own (.d (.int ds.length))) : Cl X F (.builtin "len") [.d (.tup ds)] Q own := by
  constructor
  intro ls H vs st rr Qv k
  obtain ⟨v, rfl, rv⟩ := rrs1 rr
  obtain ⟨p, xs, rfl, hs, hr⟩ := tup_rr rv
  refine call_len_seq.to ⟨p, xs, rfl, .inr (Same.seqT (msk_same _ _) hs), k _ _ _ (.d (.int _)) _ Le.refl st ir_int ?_⟩
  rw [← hr.length]; exact h
/-- len of a cell that is a list -/
theorem Cl.lenC {n : Nat} {rs : List R} (hc : own[n]? = some (.lst rs)) (h : Q own (.d (.int rs.length))) : Cl X F (.builtin "len") [.c n] Q own := by
  constructor
  intro ls H vs st rr Qv k
  obtain ⟨v, rfl, rv⟩ := rrs1 rr
  obtain ⟨l, hl, rfl⟩ := rv
  obtain ⟨xs, e, q⟩ := st.at_ n l _ hl hc
  refine call_len_seq.to ⟨l, xs, rfl, .inl (.inl (.inl e)), k _ _ _ (.d (.int _)) _ Le.refl st ir_int ?_⟩
  rw [← q.length']; exact h
/-- list(x): a copy -/
theorem Cl.listL {ds : List D} (h : Q own (.d (.lst ds))) : Cl X F (.type "list") [.d (.lst ds)] Q own := by
  constructor
  intro ls H vs st rr Qv k
  obtain ⟨v, rfl, rv⟩ := rrs1 rr
  obtain ⟨p, xs, rfl, hs, hr⟩ := lst_rr rv
  refine call_list_of.to ⟨p, xs, rfl, .inl (sq_h hs), fun l hl => ?_⟩
  refine k _ _ _ (.d (.lst ds)) _ (Le.grow (same_new hl)) (st.grow (same_new hl)) ?_ h
  simp only [RRep, Rep]
  exact ⟨l, xs, rfl, st.seen hl, Reps.mono (msk_mono (same_new hl)) hr⟩
theorem Cl.listT {ds : List D} (h : Q own (.d (.lst ds))) : Cl X F (.type "list") [.d (.tup ds)] Q own := by
  constructor
  intro ls H vs st rr Qv k
  obtain ⟨v, rfl, rv⟩ := rrs1 rr
  obtain ⟨p, xs, rfl, hs, hr⟩ := tup_rr rv
  refine call_list_of.to ⟨p, xs, rfl, .inr (Same.seqT (msk_same _ _) hs), fun l hl => ?_⟩
  refine k _ _ _ (.d (.lst ds)) _ (Le.grow (same_new hl)) (st.grow (same_new hl)) ?_ h
  simp only [RRep, Rep]
  exact ⟨l, xs, rfl, st.seen hl, Reps.mono (msk_mono (same_new hl)) hr⟩
theorem Cl.tupleL {ds : List D} (h : Q own (.d (.tup ds))) : Cl X F (.type "tuple") [.d (.lst ds)] Q own := by
  constructor
  intro ls H vs st rr Qv k
  obtain ⟨v, rfl, rv⟩ := rrs1 rr
  obtain ⟨p, xs, rfl, hs, hr⟩ := lst_rr rv
  refine call_tuple_of.to ⟨p, xs, rfl, .inl ⟨sq_h hs, fun l hl => ?_⟩⟩
  refine k _ _ _ (.d (.tup ds)) _ (Le.grow (same_new hl)) (st.grow (same_new hl)) ?_ h
  simp only [RRep, Rep]
  exact ⟨l, xs, rfl, .inl (.inl (st.seen hl)), Reps.mono (msk_mono (same_new hl)) hr⟩
theorem Cl.tupleT {ds : List D} (h : Q own (.d (.tup ds))) : Cl X F (.type "tuple") [.d (.tup ds)] Q own := by
  constructor
  intro ls H vs st rr Qv k
  obtain ⟨v, rfl, rv⟩ := rrs1 rr
  obtain ⟨p, xs, rfl, hs, hr⟩ := tup_rr rv
  exact call_tuple_of.to ⟨p, xs, rfl, .inr ⟨Same.seqT (msk_same _ _) hs, k _ _ _ (.d (.tup ds)) _ Le.refl st rv h⟩⟩

/-! ### lists and tuples -/
/-- a[i] -/
structure Ix (X : Cx) (F : Fm) (x y : R) (Q : QE) (own : List Cell)  : Prop where
  mk :: (run : ∀ ls H u v, St0 X.K F ls own H → RRep X.K ls (F.g ls own H) x u → RRep X.K ls (F.g ls own H) y v → ∀ Qv : VK, KV' X F ls own H Q Qv → rIx X.K u v H Qv)
instance {X : Cx} {F : Fm} {x y : R} {Q : QE} {own : List Cell}  : CoeFun (Ix X F x y Q own) (fun _ => ∀ ls H u v, St0 X.K F ls own H → RRep X.K ls (F.g ls own H) x u → RRep X.K ls (F.g ls own H) y v → ∀ Qv : VK, KV' X F ls own H Q Qv → rIx X.K u v H Qv) := ⟨Ix.run⟩
theorem E.ix {a b : Expr} {pos : Pos} (h : E X F a (fun o x => E X F b (fun o2 y => Ix X F x y Q o2) o ρ) own ρ) (hs : PlainIx b := by exact fun _ _ => rfl) : E X F (.Subscript a b pos) Q own ρ := by
  constructor
  intro ls σ H st sr Qv k
  refine (pe_ix ix_seq pe_we pe_we hs).to ?_
  refine h ls σ H st sr _ fun ls1 own1 H1 x u l1 s1 rx hb => ?_
  refine hb ls1 σ H1 s1 (sr.up l1.pre l1.same) _ fun ls2 own2 H2 y v l2 s2 ry ho => ?_
  exact ho ls2 H2 u v s2 (rx.up l2.pre l2.same) ry Qv fun _ _ _ _ _ l3 => k _ _ _ _ _ ((l1.trans l2).trans l3)
theorem atI_rep {K : PySem.W.Frag} {G : Hp} {ds : List D} {xs : List V} {d : D} (hr : Reps K G ds xs) (h : atI ds i = some d) : ∃ x, atI xs i = some x ∧ Rep K G d x := by
  unfold atI at h ⊢
  rw [hr.length] at h
  cases e : ixN xs.length i with
  | none => rw [e] at h; cases h
  | some n => rw [e] at h; exact hr.get h
theorem atI_rrep {K : PySem.W.Frag} {ls : List Addr} {G : Hp} {ds : List R} {xs : List V} {d : R} (hr : RReps K ls G ds xs) (h : atI ds i = some d) : ∃ x, atI xs i = some x ∧ RRep K ls G d x := by
  unfold atI at h ⊢
  rw [hr.length'] at h
  cases e : ixN xs.length i with
  | none => rw [e] at h; cases h
  | some n => rw [e] at h; exact hr.get' h
theorem Ix.lst {ds : List D} {d : D} (hi : atI ds i = some d) (h : Q own (.d d)) : Ix X F (.d (.lst ds)) (.d (.int i)) Q own := by
  constructor
  intro ls H u v st rx ry Qv k
  cases rr_int ry
  obtain ⟨p, xs, rfl, hs, hr⟩ := lst_rr rx
  obtain ⟨x, e1, e2⟩ := atI_rep hr hi
  exact .inl ⟨p, xs, i, x, rfl, rfl, sq_h hs, e1, k _ _ _ (.d d) _ Le.refl st e2 h⟩
theorem Ix.tup {ds : List D} {d : D} (hi : atI ds i = some d) (h : Q own (.d d)) : Ix X F (.d (.tup ds)) (.d (.int i)) Q own := by
  constructor
  intro ls H u v st rx ry Qv k
  cases rr_int ry
  obtain ⟨p, xs, rfl, hs, hr⟩ := tup_rr rx
  obtain ⟨x, e1, e2⟩ := atI_rep hr hi
  exact .inr (.inl ⟨p, xs, i, x, rfl, rfl, Same.seqT (msk_same _ _) hs, e1, k _ _ _ (.d d) _ Le.refl st e2 h⟩)
theorem Ix.cell {n : Nat} {rs : List R} {d : R} (hc : own[n]? = some (.lst rs)) (hi : atI rs i = some d) (h : Q own d) : Ix X F (.c n) (.d (.int i)) Q own := by
  constructor
  intro ls H u v st rx ry Qv k
  cases rr_int ry
  obtain ⟨l, hl, rfl⟩ := rx
  obtain ⟨xs, e, q⟩ := st.at_ n l _ hl hc
  obtain ⟨x, e1, e2⟩ := atI_rrep q hi
  exact .inl ⟨l, xs, i, x, rfl, rfl, .inl (.inl e), e1, k _ _ _ d _ Le.refl st e2 h⟩
theorem Ix.str {s : Str} {c : Nat} (hz : s.length ≤ sizeLine) (hi : atI s.cps.toList i = some c) (h : Q own (.d (.str ⟨#[c]⟩))) : Ix X F (.d (.str s)) (.d (.int i)) Q own := by
  constructor
  intro ls H u v st rx ry Qv k
  cases rr_int ry
  cases rr_str rx
  exact .inr (.inr ⟨s, i, c, rfl, rfl, hz, hi, k _ _ _ (.d (.str _)) _ Le.refl st ir_str h⟩)
/-- the truth of lists, ints -/
theorem Tr.int (h : QT own (decide (i ≠ 0))) : Tr X F (.d (.int i)) QT own := by
  constructor
  intro ls H u st rx Qb k
  cases rr_int rx
  refine tru_ok.to ⟨_, rfl, k _ _ _ _ Le.refl st ?_⟩
  have e : (i != 0) = decide (i ≠ 0) := by by_cases z : i = 0 <;> simp [z]
  rw [e]; exact h
theorem Tr.lst {ds : List D} (h : QT own (!ds.isEmpty)) : Tr X F (.d (.lst ds)) QT own := by
  constructor
  intro ls H u st rx Qb k
  obtain ⟨p, xs, rfl, hs, hr⟩ := lst_rr rx
  refine tru_ok.to ⟨_, .inl ⟨xs, sq_h hs, rfl⟩, k _ _ _ _ Le.refl st ?_⟩
  have e : xs.isEmpty = ds.isEmpty := by
    have := hr.length
    cases xs <;> cases ds <;> simp at this ⊢
  rw [e]; exact h
/-! ### slices -/
def wpo (X : Cx) (e : Option Expr) : TO := fun σ H Q => ∀ pins s, Inv X pins σ H s → wpAny (model X.prog X.w) X.A (evalPart e X.env) (fun u s' => ∃ o H', Inv X pins σ H' s' ∧ IsPart u o ∧ Q o H') X.xe s
theorem po_w {e : Option Expr} : PO X e (wpo X e) := ⟨fun pins s σ H Q I h => h pins s I⟩
theorem _root_.L2.PO.to {e : Option Expr} {t : TO} {σ : L2.St} {H : Hp} {Q : Option Int → Hp → Prop} (p : PO X e t) (h : t σ H Q) : wpo X e σ H Q := fun pins s I => p.run pins s σ H Q I h
structure PoE (X : Cx) (F : Fm) (e : Option Expr) (Q : List Cell → Option Int → Prop) (own : List Cell) (ρ : Ro)  : Prop where
  mk :: (run : ∀ ls σ H, St0 X.K F ls own H → SRep X.K ls (F.g ls own H) ρ σ → ∀ Qo : Option Int → Hp → Prop,
    (∀ ls' own' H' b, Le F ls own H ls' own' H' → St0 X.K F ls' own' H' → Q own' b → Qo b H') → wpo X e σ H Qo)
instance {X : Cx} {F : Fm} {e : Option Expr} {Q : List Cell → Option Int → Prop} {own : List Cell} {ρ : Ro}  : CoeFun (PoE X F e Q own ρ) (fun _ => ∀ ls σ H, St0 X.K F ls own H → SRep X.K ls (F.g ls own H) ρ σ → ∀ Qo : Option Int → Hp → Prop,
    (∀ ls' own' H' b, Le F ls own H ls' own' H' → St0 X.K F ls' own' H' → Q own' b → Qo b H') → wpo X e σ H Qo) := ⟨PoE.run⟩
theorem PoE.none {Q : List Cell → Option Int → Prop} (h : Q own none) : PoE X F none Q own ρ := .mk fun ls σ H st sr Qo k => po_none.to (k _ _ _ _ Le.refl st h)
theorem PoE.some {e : Expr} {Q : List Cell → Option Int → Prop} (h : E X F e (fun o r => ∃ i, r = .d (.int i) ∧ Q o (some i)) own ρ) : PoE X F (some e) Q own ρ := by
  constructor
  intro ls σ H st sr Qo k
  refine (po_some pe_we).to ?_
  refine h ls σ H st sr _ fun ls1 own1 H1 x u l1 s1 rx ⟨i, ex, q⟩ => ?_
  subst ex
  cases rr_int rx
  exact ⟨i, rfl, k _ _ _ _ l1 s1 q⟩
def cutD (xs : List D) (lo hi : Option Int) : List D := (xs.drop (HT.sIx xs.length 0 lo)).take (HT.sIx xs.length xs.length hi - HT.sIx xs.length 0 lo)
theorem cut_rep {K : PySem.W.Frag} {G : Hp} {ds : List D} {xs : List V} {lo hi : Option Int} (hr : Reps K G ds xs) : Reps K G (cutD ds lo hi) (cutV xs lo hi) := by
  unfold cutD cutV
  rw [← hr.length]
  exact (hr.drop _).take _
def rSlA (K : PySem.W.Frag) : V → Option Int → Option Int → Hp → VK → Prop := fun x lo hi H Q => rSlL K x lo hi H Q ∨ (fun x lo hi H Q => (∃ z, x = .str z ∧ z.length ≤ sizeLine ∧ Q (.str (cutS z lo hi)) H) ∨ rSlT K x lo hi H Q) x lo hi H Q
theorem sl_any : SlR X (rSlA X.K) := sl_list.or (sl_str.or sl_tup)
structure Sl (X : Cx) (F : Fm) (x : R) (lo hi : Option Int) (Q : QE) (own : List Cell)  : Prop where
  mk :: (run : ∀ ls H u, St0 X.K F ls own H → RRep X.K ls (F.g ls own H) x u → ∀ Qv : VK, KV' X F ls own H Q Qv → rSlA X.K u lo hi H Qv)
instance {X : Cx} {F : Fm} {x : R} {lo hi : Option Int} {Q : QE} {own : List Cell}  : CoeFun (Sl X F x lo hi Q own) (fun _ => ∀ ls H u, St0 X.K F ls own H → RRep X.K ls (F.g ls own H) x u → ∀ Qv : VK, KV' X F ls own H Q Qv → rSlA X.K u lo hi H Qv) := ⟨Sl.run⟩
theorem E.slice {e : Expr} {lo hi : Option Expr} {p2 pos : Pos} (h : E X F e (fun o x => PoE X F lo (fun o1 l => PoE X F hi (fun o2 u => Sl X F x l u Q o2) o1 ρ) o ρ) own ρ) : E X F (.Subscript e (.Slice lo hi none p2) pos) Q own ρ := by
  constructor
  intro ls σ H st sr Qv k
  refine (pe_slice sl_any pe_we po_w po_w).to ?_
  refine h ls σ H st sr _ fun ls1 own1 H1 x u l1 s1 rx q => ?_
  refine q ls1 σ H1 s1 (sr.up l1.pre l1.same) _ fun ls2 own2 H2 lo' l2 s2 q2 => ?_
  refine q2 ls2 σ H2 s2 (sr.up (l1.trans l2).pre (l1.trans l2).same) _ fun ls3 own3 H3 hi' l3 s3 q3 => ?_
  exact q3 ls3 H3 u s3 (rx.up (l2.trans l3).pre (l2.trans l3).same) Qv fun _ _ _ _ _ l4 => k _ _ _ _ _ (((l1.trans l2).trans l3).trans l4)
/-- a list's slice is a new list -/
theorem Sl.lst {ds : List D} {lo hi : Option Int} (h : Q own (.d (.lst (cutD ds lo hi)))) : Sl X F (.d (.lst ds)) lo hi Q own := by
  constructor
  intro ls H u st rx Qv k
  obtain ⟨p, xs, rfl, hs, hr⟩ := lst_rr rx
  refine .inl ⟨p, xs, rfl, sq_h hs, fun l hl => ?_⟩
  refine k _ _ _ (.d (.lst _)) _ (Le.grow (same_new hl)) (st.grow (same_new hl)) ?_ h
  simp only [RRep, Rep]
  exact ⟨l, _, rfl, st.seen hl, Reps.mono (msk_mono (same_new hl)) (cut_rep hr)⟩
theorem Sl.str {s : Str} {lo hi : Option Int} (hz : s.length ≤ sizeLine) (h : Q own (.d (.str (cutS s lo hi)))) : Sl X F (.d (.str s)) lo hi Q own := by
  constructor
  intro ls H u st rx Qv k
  cases rr_str rx
  exact .inr (.inl ⟨s, rfl, hz, k _ _ _ (.d (.str _)) _ Le.refl st ir_str h⟩)
/-- a tuple's slice that is not the whole is a new tuple -/
theorem Sl.tup {ds : List D} {lo hi : Option Int} (hn : ¬ (HT.sIx ds.length 0 lo = 0 ∧ HT.sIx ds.length ds.length hi = ds.length)) (h : Q own (.d (.tup (cutD ds lo hi)))) : Sl X F (.d (.tup ds)) lo hi Q own := by
  constructor
  intro ls H u st rx Qv k
  obtain ⟨p, xs, rfl, hs, hr⟩ := tup_rr rx
  refine .inr (.inr ⟨p, xs, rfl, Same.seqT (msk_same _ _) hs, by rw [← hr.length]; exact hn, fun l hl => ?_⟩)
  refine k _ _ _ (.d (.tup _)) _ (Le.grow (same_new hl)) (st.grow (same_new hl)) ?_ h
  simp only [RRep, Rep]
  exact ⟨l, _, rfl, .inl (.inl (st.seen hl)), Reps.mono (msk_mono (same_new hl)) (cut_rep hr)⟩
/-- list + list: a new list -/
theorem O2.cat {as bs : List D} (hz : as.length + bs.length ≤ sizeLine) (h : Q own (.d (.lst (as ++ bs)))) : O2 X F (.bin .Add) (.d (.lst as)) (.d (.lst bs)) Q own := by
  constructor
  intro ls H u v st rx ry Qv k
  obtain ⟨p, xs, rfl, hs, hr⟩ := lst_rr rx
  obtain ⟨q, ys, rfl, hs', hr'⟩ := lst_rr ry
  refine op_cat.to ⟨p, q, xs, ys, rfl, rfl, msk_same _ _ _ _ hs, msk_same _ _ _ _ hs', by rw [← hr.length, ← hr'.length]; exact hz, fun l hl => ?_⟩
  refine k _ _ _ (.d (.lst _)) _ (Le.grow (same_new hl)) (st.grow (same_new hl)) ?_ h
  simp only [RRep, Rep]
  exact ⟨l, _, rfl, st.seen hl, Reps.mono (msk_mono (same_new hl)) (hr.append hr')⟩
theorem O2.catS {a b : Str} (hz : a.length + b.length ≤ sizeLine) (h : Q own (.d (.str (a ++ b)))) : O2 X F (.bin .Add) (.d (.str a)) (.d (.str b)) Q own := by
  constructor
  intro ls H u v st rx ry Qv k
  cases rr_str rx
  cases rr_str ry
  exact op_add_str.to ⟨a, b, rfl, rfl, hz, k _ _ _ (.d (.str _)) _ Le.refl st ir_str h⟩
end
end DL

namespace DL
open PySem PySem.Spec PyProof.Rows L2

/-! ### promises over data -/
/-- a def that changes nothing that stood: what it asks of its arguments, what it hands back -/
def spF (K : PySem.W.Frag) (pre : List D → Prop) (post : List D → D → Prop) : Sp := fun vs H Q _ => ∃ (S : List Addr) (ds : List D), (∀ b ∈ S, H b ≠ none) ∧ Reps K (msk S H) ds vs ∧ pre ds ∧
  ∀ v H' d, Same H H' → Rep K (msk S H') d v → post ds d → Q v H'
/-- a def that changes its first argument alone, a list of which I holds ahead and behind -/
def spP (K : PySem.W.Frag) (I : List D → Prop) (pre : List D → Prop) (post : List D → D → Prop) : Sp := fun vs H Q _ => ∃ (S : List Addr) (l : Addr) (ws xs : List V) (ps ds : List D), vs = .ref l :: ws ∧ l ∈ S ∧ (∀ b ∈ S, H b ≠ none) ∧
  H l = some (.lst xs) ∧ Reps K (msk S H) ps xs ∧ I ps ∧ Reps K (msk S H) ds ws ∧ pre ds ∧
  ∀ v H' d xs' ps', (∀ b o, b ≠ l → H b = some o → H' b = some o) → H' l = some (.lst xs') → Reps K (msk S H') ps' xs' → I ps' → Rep K (msk S H') d v → post ds d → Q v H'
/-- an __init__: it fills its new instance -/
def spI (K : PySem.W.Frag) (C : Addr) (ns : List Str) (pre : List D → Prop) (post : List D → List D → Prop) : Sp := fun vs H Q _ => ∃ (S : List Addr) (x dx : Addr) (ws : List V) (ds : List D), vs = .ref x :: ws ∧ x ∉ S ∧ (∀ b ∈ S, H b ≠ none) ∧
  H x = some (.ins C dx []) ∧ Reps K (msk (S ++ [x]) H) ds ws ∧ pre ds ∧
  ∀ H' dx' xs fs, (∀ b o, b ≠ x → H b = some o → H' b = some o) → H' x = some (.ins C dx' (ns.zip xs)) → ns.length = fs.length → Reps K (msk (S ++ [x]) H') fs xs → post ds fs → Q .non H'

theorem reps_append_inv {K : PySem.W.Frag} {G : Hp} {ds : List D} {vs : List V} (h : Reps K G ds vs) : ds.length = vs.length := h.length
theorem rreps_data {K : PySem.W.Frag} {ls : List Addr} {G : Hp} {ds : List D} {vs : List V} (h : Reps K G ds vs) : SRep K ls G (ds.map fun d => some (R.d d)) (vs.map some) := by
  induction ds generalizing vs with
  | nil => simp only [Reps] at h; subst h; exact .nil
  | cons d ds ih =>
    simp only [Reps] at h
    obtain ⟨x, r, rfl, h2, h3⟩ := h
    exact .cons h2 (ih h3)
theorem srep_nones {K : PySem.W.Frag} {ls : List Addr} {G : Hp} : ∀ n : Nat, SRep K ls G (List.replicate n none) (List.replicate n none)
  | 0 => .nil
  | n + 1 => .cons True.intro (srep_nones n)
theorem srep_append {K : PySem.W.Frag} {ls : List Addr} {G : Hp} : ∀ {ρ ρ' : Ro} {σ σ' : L2.St}, SRep K ls G ρ σ → SRep K ls G ρ' σ' → SRep K ls G (ρ ++ ρ') (σ ++ σ')
  | _, _, _, _, .nil, h => h
  | _, _, _, _, .cons a t, h => .cons a (srep_append t h)
theorem start_rep {K : PySem.W.Frag} {ls : List Addr} {G : Hp} {rs : List R} {vs : List V} (N : List Str) (h : RReps K ls G rs vs) : SRep K ls G (rs.map some ++ List.replicate (N.length - rs.length) none) (L2.start N vs) := by
  unfold L2.start
  rw [h.length']
  refine srep_append ?_ (srep_nones _)
  clear N
  induction h with
  | nil => exact .nil
  | cons a t ih => exact .cons a ih
/-- the names at a def's entry -/
abbrev ent (n : Nat) (rs : List R) : Ro := rs.map some ++ List.replicate (n - rs.length) none

section
variable {P : Program} {w : World} {K : PySem.W.Frag} {mg : Str → Option Value} {base : Heap}
/-- the body's context in a def that lets nothing out -/
abbrev cx0 (P : Program) (w : World) (K : PySem.W.Frag) (mg : Str → Option Value) (base : Heap) (N : List Str) (qual : Str) (sc : Scope) (f : Addr) (cdv : Value) (A : Around) (outer : List Env) (s : Shared) (H : Hp) (E : XK) : Cx := (cxOf CX0 P w K mg base N qual sc f cdv A outer s H E).nox

theorem ok_F {x qual : Str} {st : Stmt} {f : Addr} {fd : FuncData} {N ps : List Str} {k : Nat} (F : Fun K x qual st f fd) (S : FnScope N ps (defScope st)) {pre : List D → Prop} {post : List D → D → Prop} (hlen : ∀ ds, pre ds → ds.length = ps.length)
    (body : ∀ (cdv : Value) (A : Around) (outer : List Env) (s : Shared) (H : Hp) (E : XK) (Fr : Fm) (ds : List D), Room k (A.deeper (envOfC qual (defScope st) s.heap.objs.size f cdv)) → Fr.mu = [] → pre ds →
      W (cx0 P w K mg base N qual (defScope st) f cdv A outer s H E) Fr (defBody st) { nx := fun _ _ => post ds .non, rt := fun _ r => ∃ d, r = .d d ∧ post ds d } [] (ent N.length (ds.map R.d))) :
    FnOk P w K mg base CX0 (k + 1) f fd ps (spF K pre post) := by
  refine F.ok S (fun vs H Q E h => ?_) (fun cdv A outer s H vs Q E hr h => ?_)
  · obtain ⟨_, ds, _, h2, h3, _⟩ := h
    rw [← h2.length]; exact hlen ds h3
  · obtain ⟨S0, ds, h1, h2, h3, kk⟩ := h
    refine ⟨_, pss_ws, ?_⟩
    have st0 : St0 K (Fm.of H S0 []) [] [] H := ⟨rfl, List.nodup_nil, fun l hl => absurd hl (by simp), fun k l c hl => absurd hl (by simp), fun b o _ e => e, fun b h => h, h1, fun l hl => absurd hl (by simp), List.nil_prefix, fun _ _ e => by cases e⟩
    have eg : Fm.g (Fm.of H S0 []) [] [] H = msk S0 H := by show msk (S0 ++ live [] []) H = _; simp [live]
    have sr : SRep K [] (Fm.g (Fm.of H S0 []) [] [] H) (ent N.length (ds.map R.d)) (L2.start N vs) := start_rep N (by rw [eg]; exact RReps.ofD h2)
    have fin : ∀ {ls' : List Addr} {own' : List Cell} {H' : Hp} {d : D} {v : V}, St0 K (Fm.of H S0 []) ls' own' H' → Rep K (Fm.g (Fm.of H S0 []) ls' own' H') d v → post ds d → Q v H' := fun s' r q =>
      kk _ _ _ (fun b o e => s'.keep b o (by simp) e) (Rep.mono (msk_le fun b hb => List.mem_append_left _ hb) r) q
    refine body cdv A outer s H E (Fm.of H S0 []) ds hr rfl h3 [] (L2.start N vs) H st0 sr _ ⟨?_, ?_, ?_, ?_⟩
    · intro ls' own' H' ρ σ _ s' _ q
      exact fin (d := .non) s' (by simp only [Rep]) q
    · rintro ls' own' H' r v _ s' rv ⟨d, rfl, q⟩
      exact fin s' rv q
    · intro _ _ _ _ _ _ _ _ q; exact q
    · intro _ _ _ _ _ _ _ _ q; exact q

/-- the cell's content is as I says -/
def CellI (I : List D → Prop) (own : List Cell) : Prop := own[0]? = some (.any I) ∨ ∃ ps : List D, own[0]? = some (.lst (ps.map R.d)) ∧ I ps
theorem ok_P {x qual : Str} {st : Stmt} {f : Addr} {fd : FuncData} {N ps : List Str} {k : Nat} (F : Fun K x qual st f fd) (S : FnScope N ps (defScope st)) {I : List D → Prop} {pre : List D → Prop} {post : List D → D → Prop} (hlen : ∀ ds, pre ds → ds.length + 1 = ps.length)
    (body : ∀ (cdv : Value) (A : Around) (outer : List Env) (s : Shared) (H : Hp) (E : XK) (Fr : Fm) (ds : List D), Room k (A.deeper (envOfC qual (defScope st) s.heap.objs.size f cdv)) → pre ds →
      W (cx0 P w K mg base N qual (defScope st) f cdv A outer s H E) Fr (defBody st) { nx := fun own _ => CellI I own ∧ post ds .non, rt := fun own r => CellI I own ∧ ∃ d, r = .d d ∧ post ds d } [.any I] (ent N.length (.c 0 :: ds.map R.d))) :
    FnOk P w K mg base CX0 (k + 1) f fd ps (spP K I pre post) := by
  refine F.ok S (fun vs H Q E h => ?_) (fun cdv A outer s H vs Q E hr h => ?_)
  · obtain ⟨_, l, ws, xs, qs, ds, rfl, _, _, _, _, _, h7, h8, _⟩ := h
    rw [List.length_cons, ← h7.length]; exact hlen ds h8
  · obtain ⟨S0, l, ws, xs, qs, ds, rfl, hl, h1, h4, h5, h6, h7, h8, kk⟩ := h
    refine ⟨_, pss_ws, ?_⟩
    have nl : l ∉ S0.filter (· ≠ l) := by simp
    have em : ∀ H1 : Hp, msk (S0.filter (· ≠ l) ++ [l]) H1 = msk S0 H1 := fun H1 => msk_congr fun b => by
      simp only [List.mem_append, List.mem_filter, List.mem_singleton, decide_eq_true_eq, ne_eq]
      constructor
      · rintro (⟨h, _⟩ | rfl)
        · exact h
        · exact hl
      · intro h
        by_cases e : b = l
        · exact .inr e
        · exact .inl ⟨h, by simpa using e⟩
    have eg : ∀ H1, Fm.g (Fm.of H (S0.filter (· ≠ l)) [l]) [l] [.any I] H1 = msk S0 H1 := fun H1 => em H1
    have st0 : St0 K (Fm.of H (S0.filter (· ≠ l)) [l]) [l] [.any I] H := by
      refine ⟨rfl, by simp, fun b hb => ?_, fun j b c e1 e2 => ?_, fun b o _ e => e, fun b h => h, fun b hb => h1 b (List.mem_filter.mp hb).1, fun b hb => by rw [List.mem_singleton.mp hb, h4]; exact fun z => (by cases z), List.nil_prefix, fun _ _ e => by cases e⟩
      · rw [List.mem_singleton.mp hb]; exact ⟨nl, .inr (by simp)⟩
      · cases j with
        | zero =>
          simp at e1 e2
          subst e1; subst e2
          rw [eg]
          exact ⟨xs, qs, h4, h5, h6⟩
        | succ j => simp at e1
    have sr : SRep K [l] (Fm.g (Fm.of H (S0.filter (· ≠ l)) [l]) [l] [.any I] H) (ent N.length (.c 0 :: ds.map R.d)) (L2.start N (.ref l :: ws)) := start_rep N (.cons ⟨l, rfl, rfl⟩ (by rw [eg]; exact RReps.ofD h7))
    have fin : ∀ {ls' : List Addr} {own' : List Cell} {H' : Hp} {d : D} {v : V}, Le (Fm.of H (S0.filter (· ≠ l)) [l]) [l] [.any I] H ls' own' H' → St0 K (Fm.of H (S0.filter (· ≠ l)) [l]) ls' own' H' → CellI I own' → Rep K (Fm.g (Fm.of H (S0.filter (· ≠ l)) [l]) ls' own' H') d v → post ds d → Q v H' := by
      intro ls' own' H' d v le s' ci r q
      have e0 : ls'[0]? = some l := pre_get le.pre rfl
      have sub : ∀ c, own'[0]? = some c → c ≠ .gone → Same (Fm.g (Fm.of H (S0.filter (· ≠ l)) [l]) ls' own' H') (msk S0 H') := fun c ec nc => by
        rw [← em]
        refine msk_le fun b hb => ?_
        rcases List.mem_append.mp hb with h | h
        · exact List.mem_append_left _ h
        · rw [List.mem_singleton.mp h]; exact List.mem_append_right _ (live_get e0 ec nc)
      have keep : ∀ b o, b ≠ l → H b = some o → H' b = some o := fun b o hb e => s'.keep b o (by simpa using hb) e
      rcases ci with ec | ⟨qs', ec, hi⟩
      · obtain ⟨xs', ps', g1, g2, g3⟩ := s'.at_ 0 l _ e0 ec
        exact kk _ _ _ _ _ keep g1 (Reps.mono (sub _ ec (fun z => by cases z)) g2) g3 (Rep.mono (sub _ ec (fun z => by cases z)) r) q
      · obtain ⟨xs', g1, g2⟩ := s'.at_ 0 l _ e0 ec
        exact kk _ _ _ _ _ keep g1 (Reps.mono (sub _ ec (fun z => by cases z)) (RReps.toD g2)) hi (Rep.mono (sub _ ec (fun z => by cases z)) r) q
    refine body cdv A outer s H E (Fm.of H (S0.filter (· ≠ l)) [l]) ds hr h8 [l] (L2.start N (.ref l :: ws)) H st0 sr _ ⟨?_, ?_, ?_, ?_⟩
    · rintro ls' own' H' ρ σ le s' _ ⟨ci, q⟩
      exact fin (d := .non) le s' ci (by simp only [Rep]) q
    · rintro ls' own' H' r v le s' rv ⟨ci, d, rfl, q⟩
      exact fin le s' ci rv q
    · intro _ _ _ _ _ _ _ _ q; exact q
    · intro _ _ _ _ _ _ _ _ q; exact q

theorem ok_I {x qual : Str} {st : Stmt} {f C : Addr} {fd : FuncData} {N ps ns : List Str} {k : Nat} (F : Fun K x qual st f fd ∨ ∃ dvs kws, FunD K x qual (defArgs st) (defBody st) (defScope st) dvs kws f fd) (S : FnScope N ps (defScope st)) {pre : List D → Prop} {post : List D → List D → Prop} (hlen : ∀ ds, pre ds → ds.length + 1 = ps.length)
    (body : ∀ (cdv : Value) (A : Around) (outer : List Env) (s : Shared) (H : Hp) (E : XK) (Fr : Fm) (ds : List D), Room k (A.deeper (envOfC qual (defScope st) s.heap.objs.size f cdv)) → pre ds →
      W (cx0 P w K mg base N qual (defScope st) f cdv A outer s H E) Fr (defBody st) { nx := fun own _ => ∃ fs : List D, own[0]? = some (.ins C ns (fs.map R.d)) ∧ post ds fs, rt := fun own r => r = .d .non ∧ ∃ fs : List D, own[0]? = some (.ins C ns (fs.map R.d)) ∧ post ds fs } [.ins C [] []] (ent N.length (.c 0 :: ds.map R.d))) :
    FnOk P w K mg base CX0 (k + 1) f fd ps (spI K C ns pre post) := by
  have len : ∀ vs H Q E, spI K C ns pre post vs H Q E → vs.length = ps.length := fun vs H Q E h => by
    obtain ⟨_, l, dx, ws, ds, rfl, _, _, _, h7, h8, _⟩ := h
    rw [List.length_cons, ← h7.length]; exact hlen ds h8
  have hb : ∀ (cdv : Value) (A : Around) (outer : List Env) (s : Shared) (H : Hp) (vs : List V) (Q : VK) (E : XK), Room k (A.deeper (envOfC qual (defScope st) s.heap.objs.size f cdv)) → spI K C ns pre post vs H Q E →
      ∃ t, PSs (cx0 P w K mg base N qual (defScope st) f cdv A outer s H E) (defBody st) t ∧ t { nx := fun _ H' => Q .non H', rt := Q } (L2.start N vs) H := by
    intro cdv A outer s H vs Q E hr h
    obtain ⟨S0, l, dx, ws, ds, rfl, hl, h1, h4, h7, h8, kk⟩ := h
    refine ⟨_, pss_ws, ?_⟩
    have st0 : St0 K (Fm.of H S0 [l]) [l] [.ins C [] []] H := by
      refine ⟨rfl, by simp, fun b hb => ?_, fun j b c e1 e2 => ?_, fun b o _ e => e, fun b h => h, h1, fun b hb => by rw [List.mem_singleton.mp hb, h4]; exact fun z => (by cases z), List.nil_prefix, fun _ _ e => by cases e⟩
      · rw [List.mem_singleton.mp hb]; exact ⟨hl, .inr (by simp)⟩
      · cases j with
        | zero =>
          simp at e1 e2
          subst e1; subst e2
          exact ⟨dx, [], h4, rfl, .nil⟩
        | succ j => simp at e1
    have sr : SRep K [l] (Fm.g (Fm.of H S0 [l]) [l] [.ins C [] []] H) (ent N.length (.c 0 :: ds.map R.d)) (L2.start N (.ref l :: ws)) := start_rep N (.cons ⟨l, rfl, rfl⟩ (RReps.ofD h7))
    have fin : ∀ {ls' : List Addr} {own' : List Cell} {H' : Hp}, Le (Fm.of H S0 [l]) [l] [.ins C [] []] H ls' own' H' → St0 K (Fm.of H S0 [l]) ls' own' H' → (∃ fs : List D, own'[0]? = some (.ins C ns (fs.map R.d)) ∧ post ds fs) → Q .non H' := by
      rintro ls' own' H' le s' ⟨fs, ec, q⟩
      have e0 : ls'[0]? = some l := pre_get le.pre rfl
      obtain ⟨dx', xs', g1, g2, g3⟩ := s'.at_ 0 l _ e0 ec
      refine kk _ _ _ _ (fun b o hb e => s'.keep b o (by simpa using hb) e) g1 (by rw [g2, List.length_map]) (Reps.mono (msk_le fun b hb => ?_) (RReps.toD g3)) q
      rcases List.mem_append.mp hb with h | h
      · exact List.mem_append_left _ h
      · rw [List.mem_singleton.mp h]; exact List.mem_append_right _ (live_get e0 ec fun z => by cases z)
    refine body cdv A outer s H E (Fm.of H S0 [l]) ds hr h8 [l] (L2.start N (.ref l :: ws)) H st0 sr _ ⟨?_, ?_, ?_, ?_⟩
    · intro ls' own' H' ρ σ le s' _ q
      exact fin le s' q
    · rintro ls' own' H' r v le s' rv ⟨rfl, q⟩
      have e := rr_non rv
      subst e
      exact fin le s' q
    · intro _ _ _ _ _ _ _ _ q; exact q
    · intro _ _ _ _ _ _ _ _ q; exact q
  rcases F with F | ⟨dvs, kws, F⟩
  · exact F.ok S len hb
  · refine F.ok S len fun cdv A outer s H vs Q E hr h => ?_
    obtain ⟨t, h1, h2⟩ := hb cdv A outer s H vs Q E hr h
    exact ⟨t, h1.nox, h2⟩
end

/-! ### calls -/
section
variable {X : Cx} {F : Fm} {own : List Cell} {ρ : Ro} {Q : QE} {k : Nat} {f C : Addr} {fd : FuncData} {ps : List Str} {pre : List D → Prop} {post : List D → D → Prop} {I : List D → Prop} {x m : Str} {p pos apos : Pos} {e o : Expr} {es : List Expr}
theorem reps_app {K : PySem.W.Frag} {ls : List Addr} {G : Hp} {ds : List D} {vs : List V} (h : RReps K ls G (ds.map R.d) vs) : Reps K G ds vs := RReps.toD h
/-- what a def that changes nothing hands on -/
theorem spF_use {ls own H Qv} {ds : List D} {vs : List V} (st : St0 X.K F ls own H) (rr : Reps X.K (F.g ls own H) ds vs) (hp : pre ds) (k : KV' X F ls own H Q Qv) (q : ∀ d, post ds d → Q own (.d d)) (E : XK) : spF X.K pre post vs H Qv E :=
  ⟨F.S0 ++ live ls own, ds, st.hid, rr, hp, fun v H' d sm rd pd => k ls own H' (.d d) v (Le.grow sm) (st.grow sm) rd (q d pd)⟩
theorem E.call (G : FnOk X.prog X.w X.K X.mg X.base CX0 k f fd ps (spF X.K pre post)) (hr : Room k X.A) (hm : X.mg x = some (.ref f)) (hk : PySem.W.keepIn X.K (.ref f) = true) (hb : Binds X.K fd ps [])
    (h : A X F (e :: es) (fun o rs => ∃ ds : List D, rs = ds.map R.d ∧ pre ds ∧ ∀ d, post ds d → Q o (.d d)) own ρ) (hg : Gl X x := by rfl) (hdb : (x == ("__debug__" : Str)) = false := by decide) (he : starEach (e :: es) X.env = (false, eval e X.env) :: starEach es X.env := by rfl)
    (hpl : (backTo pos (starEach es X.env)).any (·.1) = false := by rfl) : E X F (.Call (.Name x p) (e :: es) [] pos) Q own ρ := by
  constructor
  intro ls σ H st sr Qv k
  refine (pe_call G hr hg hm hk hb .nil pass0 pa_wa hdb he hpl).to ?_
  refine h ls σ H st sr _ fun ls1 own1 H1 rs vs l1 s1 rr ⟨ds, er, hp, q⟩ => ?_
  subst er
  rw [List.append_nil]
  exact spF_use s1 (RReps.toD rr) hp (fun _ _ _ _ _ l => k _ _ _ _ _ (l1.trans l)) q _
theorem st0_other {K : PySem.W.Frag} {F : Fm} {ls : List Addr} {own : List Cell} {H H' : Hp} {n : Nat} {l : Addr} {c c' : Cell} (st : St0 K F ls own H) (hl : ls[n]? = some l) (hc : own[n]? = some c) (nc : c ≠ .gone) (nc' : c' ≠ .gone) (hm : ∀ b o, b ≠ l → H b = some o → H' b = some o)
    (hn : H' l ≠ none) (at' : CellAt K ls (F.g ls own H') H' l c') : St0 K F ls (own.set n c') H' ∧ Le F ls own H ls (own.set n c') H' := by
  have el : ∀ H1, F.g ls (own.set n c') H1 = F.g ls own H1 := fun H1 => by show msk (F.S0 ++ live ls (own.set n c')) H1 = _; rw [live_set hc nc nc']
  have hin : l ∈ F.S0 ++ live ls own := List.mem_append_right _ (live_get hl hc nc)
  have sm : Same (F.g ls own H) (F.g ls own H') := msk_but fun b o hb e => hm b o (fun z => hb (z ▸ hin)) e
  have hnew := st.new l (List.mem_of_getElem? hl)
  refine ⟨⟨by rw [List.length_set]; exact st.len, st.nd, st.new, fun j b c1 e1 e2 => ?_, fun b o hb e => ?_, fun b hb => ?_, st.s0, fun b hb => ?_, st.ap, st.as.trans (by rw [el]; exact sm)⟩, ⟨List.prefix_rfl, by rw [el]; exact sm⟩⟩
  · rw [el]
    by_cases hj : n = j
    · subst hj
      have hlt : n < own.length := (List.getElem?_eq_some_iff.mp hc).1
      rw [List.getElem?_set_self hlt] at e2
      cases e2
      rw [hl] at e1
      cases e1
      exact at'
    · rw [List.getElem?_set_ne hj] at e2
      have hbl : b ≠ l := fun z => by
        subst z
        exact hj (nd_ix st.nd hl e1)
      exact (st.at_ j b c1 e1 e2).up List.prefix_rfl sm fun o q => hm b o hbl q
  · by_cases z : b = l
    · subst z
      rcases hnew.2 with h | h
      · rw [h] at e; cases e
      · exact absurd h hb
    · exact hm b o z (st.keep b o hb e)
  · by_cases z : b = l
    · subst z; exact hn
    · have := st.dom b hb
      cases q : H b with
      | none => exact absurd q this
      | some o => rw [hm b o z q]; exact fun z => by cases z
  · by_cases z : b = l
    · subst z; exact hn
    · have := st.there b hb
      cases q : H b with
      | none => exact absurd q this
      | some o => rw [hm b o z q]; exact fun z => by cases z
/-- a def that changes its first argument, a cell -/
theorem E.callP (G : FnOk X.prog X.w X.K X.mg X.base CX0 k f fd ps (spP X.K I pre post)) (hr : Room k X.A) (hm : X.mg x = some (.ref f)) (hk : PySem.W.keepIn X.K (.ref f) = true) (hb : Binds X.K fd ps [])
    (h : A X F (e :: es) (fun o rs => ∃ (n : Nat) (ds : List D), rs = .c n :: ds.map R.d ∧ o[n]? = some (.any I) ∧ pre ds ∧ ∀ d, post ds d → Q o (.d d)) own ρ) (hg : Gl X x := by rfl) (hdb : (x == ("__debug__" : Str)) = false := by decide) (he : starEach (e :: es) X.env = (false, eval e X.env) :: starEach es X.env := by rfl)
    (hpl : (backTo pos (starEach es X.env)).any (·.1) = false := by rfl) : E X F (.Call (.Name x p) (e :: es) [] pos) Q own ρ := by
  constructor
  intro ls σ H st sr Qv k
  refine (pe_call G hr hg hm hk hb .nil pass0 pa_wa hdb he hpl).to ?_
  refine h ls σ H st sr _ fun ls1 own1 H1 rs vs l1 s1 rr ⟨n, ds, er, hc, hp, q⟩ => ?_
  subst er
  rw [List.append_nil]
  cases rr with
  | cons r0 rr =>
    obtain ⟨l, hl, rfl⟩ := r0
    obtain ⟨xs, qs, g1, g2, g3⟩ := s1.at_ n l _ hl hc
    refine ⟨F.S0 ++ live ls1 own1, l, _, xs, qs, ds, rfl, List.mem_append_right _ (live_get hl hc fun z => by cases z), s1.hid, g1, g2, g3, RReps.toD rr, hp, fun v H' d xs' ps' hm' a1 a2 a3 a4 a5 => ?_⟩
    have z := st0_other (c' := .any I) s1 hl hc (fun z => by cases z) (fun z => by cases z) hm' (by rw [a1]; exact fun z => by cases z) ⟨xs', ps', a1, a2, a3⟩
    have eo : own1.set n (.any I) = own1 := by
      obtain ⟨hlt, e⟩ := List.getElem?_eq_some_iff.mp hc
      rw [← e]; exact List.set_getElem_self hlt
    rw [eo] at z
    exact k _ _ _ (.d d) _ (l1.trans z.2) z.1 a4 (q d a5)
/-- o.m(e, ..) of an instance, the method changes nothing -/
theorem meth_core {ns : List Str} {ds0 : List D} {v : V} {ls own H} (st : St0 X.K F ls own H) (rv : RRep X.K ls (F.g ls own H) (.d (.ins C ns ds0)) v) (hn : (ns.zip ds0).lookup m = none) : ∃ a dx fs, v = .ref a ∧ H a = some (.ins C dx fs) ∧ fs.lookup m = none := by
  obtain ⟨a, dx, xs, rfl, e, hl, hr⟩ := ins_rr rv
  refine ⟨a, dx, _, rfl, msk_same _ _ _ _ e, ?_⟩
  have key : ∀ (ns : List Str) (ds0 : List D) (xs : List V), ds0.length = xs.length → (ns.zip ds0).lookup m = none → (ns.zip xs).lookup m = none := by
    intro ns
    induction ns with
    | nil => intro _ _ _ _; rfl
    | cons n ns ih =>
      intro ds0 xs hl h
      cases ds0 with
      | nil => cases xs with
        | nil => rfl
        | cons _ _ => simp at hl
      | cons d ds0 => cases xs with
        | nil => simp at hl
        | cons y xs =>
          simp only [List.zip_cons_cons, List.lookup_cons] at h ⊢
          cases q : m == n with
          | true => rw [q] at h; cases h
          | false => rw [q] at h; exact ih ds0 xs (by simpa using hl) h
  exact key _ _ _ hr.length hn
theorem E.meth {pl : Sem Bool} (c : Cls X.K C) (hm : Meth X.K C m f) (G : FnOk X.prog X.w X.K X.mg X.base CX0 k f fd ps (spF X.K pre post)) (hr : Room k X.A) (hb : Binds X.K fd ps [])
    (h : E X F o (fun o1 r => ∃ ns ds0, r = .d (.ins C ns ds0) ∧ (ns.zip ds0).lookup m = none ∧ A X F (e :: es) (fun o2 rs => ∃ ds : List D, rs = ds.map R.d ∧ pre (.ins C ns ds0 :: ds) ∧ ∀ d, post (.ins C ns ds0 :: ds) d → Q o2 (.d d)) o1 ρ) own ρ)
    (hst : starEach (e :: es) X.env = (false, eval e X.env) :: starEach es X.env := by rfl) (hpl : (backTo pos (starEach es X.env)).any (·.1) = false := by rfl)
    (ht : eval (.Call (.Attribute o m apos) (e :: es) [] pos) X.env = (do
      let ov ← eval o X.env
      standAt apos.atName
      let (f, first) ← holding [ov] (getMethod ov m pl)
      callWith pos f first (backTo pos (starEach (e :: es) X.env)) (backToKw pos (keywordEach [] X.env))) := by rfl) : E X F (.Call (.Attribute o m apos) (e :: es) [] pos) Q own ρ := by
  constructor
  intro ls σ H st sr Qv k
  refine (pe_meth pe_we c hm G hr hb .nil pass0 pa_wa hst hpl ht).to ?_
  refine h ls σ H st sr _ fun ls1 own1 H1 r u l1 s1 rr ⟨ns, ds0, er, hn, ha⟩ => ?_
  subst er
  obtain ⟨a, dx, fs, rfl, g1, g2⟩ := meth_core s1 rr hn
  refine ⟨a, dx, fs, rfl, g1, g2, ?_⟩
  refine ha ls1 σ H1 s1 (sr.up l1.pre l1.same) _ fun ls2 own2 H2 rs vs l2 s2 rr2 ⟨ds, er, hp, q⟩ => ?_
  subst er
  rw [List.append_nil]
  exact spF_use s2 (Reps.cons (rr.up l2.pre l2.same) (RReps.toD rr2)) hp (fun _ _ _ _ _ l => k _ _ _ _ _ ((l1.trans l2).trans l)) q _
theorem E.meth0 {pl : Sem Bool} (c : Cls X.K C) (hm : Meth X.K C m f) (G : FnOk X.prog X.w X.K X.mg X.base CX0 k f fd ps (spF X.K pre post)) (hr : Room k X.A) (hb : Binds X.K fd ps [])
    (h : E X F o (fun o1 r => ∃ ns ds0, r = .d (.ins C ns ds0) ∧ (ns.zip ds0).lookup m = none ∧ pre [.ins C ns ds0] ∧ ∀ d, post [.ins C ns ds0] d → Q o1 (.d d)) own ρ)
    (ht : eval (.Call (.Attribute o m apos) [] [] pos) X.env = (do
      let ov ← eval o X.env
      standAt apos.atName
      let (f, first) ← holding [ov] (getMethod ov m pl)
      callWith pos f first (backTo pos (starEach [] X.env)) (backToKw pos (keywordEach [] X.env))) := by rfl) : E X F (.Call (.Attribute o m apos) [] [] pos) Q own ρ := by
  constructor
  intro ls σ H st sr Qv k
  refine (pe_meth0 pe_we c hm G hr hb .nil pass0 ht).to ?_
  refine h ls σ H st sr _ fun ls1 own1 H1 r u l1 s1 rr ⟨ns, ds0, er, hn, hp, q⟩ => ?_
  subst er
  obtain ⟨a, dx, fs, rfl, g1, g2⟩ := meth_core s1 rr hn
  refine ⟨a, dx, fs, rfl, g1, g2, ?_⟩
  show spF X.K pre post [.ref a] H1 Qv E0
  exact spF_use s1 (Reps.cons rr Reps.nil) hp (fun _ _ _ _ _ l => k _ _ _ _ _ (l1.trans l)) q _
/-- C(e, ..): ds the defaults that fill up -/
theorem E.make {ns : List Str} {postI : List D → List D → Prop} {dds : List D} {dvs : List V} {dus : List Value} (M : Mk X.K C f) (G : FnOk X.prog X.w X.K X.mg X.base CX0 k f fd ps (spI X.K C ns pre postI)) (hr : Room (k + 1) X.A) (hm : X.mg x = some (.ref C)) (hb : Binds X.K fd ps dus) (hdv : Vals dvs dus) (hdd : ∀ G, Reps X.K G dds dvs)
    (h : A X F (e :: es) (fun o rs => ∃ ds : List D, rs = ds.map R.d ∧ pre (ds ++ dds) ∧ ∀ fs, postI (ds ++ dds) fs → Q o (.d (.ins C ns fs))) own ρ) (hg : Gl X x := by rfl) (hdb : (x == ("__debug__" : Str)) = false := by decide) (he : starEach (e :: es) X.env = (false, eval e X.env) :: starEach es X.env := by rfl)
    (hpl : (backTo pos (starEach es X.env)).any (·.1) = false := by rfl) : E X F (.Call (.Name x p) (e :: es) [] pos) Q own ρ := by
  constructor
  intro ls σ H st sr Qv k
  refine (pe_make M G hr hg hm hb hdv pass0 pa_wa hdb he hpl).to ?_
  refine h ls σ H st sr _ fun ls1 own1 H1 rs vs l1 s1 rr ⟨ds, er, hp, q⟩ => ?_
  subst er
  intro a dx ha hdx hne
  have hid : a ∉ F.S0 ++ live ls1 own1 := fun z => s1.hid a z ha
  have sm0 : Same H1 (upd (upd H1 dx (.own a)) a (.ins C dx [])) := fun b o e => by rw [upd_ne (ne_of_none e ha), upd_ne (ne_of_none e hdx)]; exact e
  refine ⟨F.S0 ++ live ls1 own1, a, dx, _, ds ++ dds, rfl, hid, fun b hb z => ?_, upd_same, ?_, hp, fun H' dx' xs fs hm' a1 a2 a3 a4 => ⟨rfl, ?_⟩⟩
  · have := s1.hid b hb
    cases q1 : H1 b with
    | none => exact this q1
    | some o => rw [sm0 b o q1] at z; cases z
  · refine Reps.append (Reps.mono (fun b o e => ?_) (RReps.toD rr)) (hdd _)
    have hb : b ≠ a := fun z => by
      subst z
      have := msk_same _ _ _ _ e
      rw [ha] at this; cases this
    have e : msk (F.S0 ++ live ls1 own1) H1 b = some o := e
    unfold msk at e ⊢
    split at e
    · cases e
    · rename_i hn
      rw [if_neg (by rw [List.mem_append, List.mem_singleton]; exact fun z => z.elim hn hb)]
      exact sm0 b o e
  · have sm : Same H1 H' := fun b o e => hm' b o (fun z => by subst z; rw [ha] at e; cases e) (sm0 b o e)
    refine k ls1 own1 H' (.d (.ins C ns fs)) _ (l1.trans (Le.grow sm)) (s1.grow sm) ?_ (q fs a4)
    simp only [RRep, Rep]
    refine ⟨a, dx', xs, rfl, ?_, a2, Reps.mono (msk_le fun b hb => List.mem_append_left _ hb) a3⟩
    show msk (F.S0 ++ live ls1 own1) H' a = _
    rw [msk_out hid]
    exact a1
/-! ### attributes -/
theorem zip_lookup {K : PySem.W.Frag} {G : Hp} {g : Str} {d : D} : ∀ {ns : List Str} {ds : List D} {xs : List V}, Reps K G ds xs → (ns.zip ds).lookup g = some d → ∃ y, (ns.zip xs).lookup g = some y ∧ Rep K G d y
  | [], _, _, _, h => by simp at h
  | n :: ns, [], _, _, h => by simp at h
  | n :: ns, a :: ds, _, hr, h => by
    simp only [Reps] at hr
    obtain ⟨y, r, rfl, h2, h3⟩ := hr
    simp only [List.zip_cons_cons, List.lookup_cons] at h ⊢
    cases q : g == n with
    | true =>
      rw [q] at h
      cases h
      exact ⟨y, rfl, h2⟩
    | false =>
      rw [q] at h
      exact zip_lookup h3 h
theorem E.fld {g : Str} (h : E X F e (fun o r => ∃ C ns ds d, r = .d (.ins C ns ds) ∧ Cls X.K C ∧ NoAttr X.K C g ∧ (ns.zip ds).lookup g = some d ∧ Q o (.d d)) own ρ) (hb : attributeBase e g X.env (eval e X.env) = eval e X.env := by rfl) : E X F (.Attribute e g pos) Q own ρ := by
  constructor
  intro ls σ H st sr Qv k
  refine (pe_fld pe_we hb).to ?_
  refine h ls σ H st sr _ fun ls1 own1 H1 r u l1 s1 rr ⟨C, ns, ds, d, er, hc, hn, hl, q⟩ => ?_
  subst er
  obtain ⟨a, dx, xs, rfl, e1, e2, e3⟩ := ins_rr rr
  obtain ⟨y, e4, e5⟩ := zip_lookup e3 hl
  exact ⟨a, C, dx, _, y, rfl, msk_same _ _ _ _ e1, hc, hn, e4, k _ _ _ (.d d) _ l1 s1 e5 q⟩
/-- self.g = e in an __init__, g new there -/
theorem W1.fldN {P : Po} {g : Str} {v : Expr} {pos' : Pos} (h : E X F v (fun o1 r => E X F e (fun o2 t => ∃ n C ns rs, t = .c n ∧ o2[n]? = some (.ins C ns rs) ∧ Cls X.K C ∧ NoAttr X.K C g ∧ g ∉ ns ∧ rs.length < 1000 ∧ P.nx (o2.set n (.ins C (ns ++ [g]) (rs ++ [r]))) ρ) o1 ρ) own ρ)
    (hs : swapsWith v (some (.Attribute e g pos')) pos.line X.env = pure false := by rfl) : W1 X F (.Assign [.Attribute e g pos'] v pos) P own ρ := by
  constructor
  intro ls σ H st sr De k
  refine (ps_fld pe_we pe_we hs).to ?_
  refine h ls σ H st sr _ fun ls1 own1 H1 r u l1 s1 rr he => ?_
  refine he ls1 σ H1 s1 (sr.up l1.pre l1.same) _ fun ls2 own2 H2 t y l2 s2 rt ⟨n, C, ns, rs, et, hc, c, na, hg, hlen, q⟩ => ?_
  subst et
  obtain ⟨l, hl, rfl⟩ := rt
  obtain ⟨dx, xs, g1, g2, g3⟩ := s2.at_ n l _ hl hc
  have hx : ns.length = xs.length := by rw [g2, g3.length']
  have hz : ∀ (ns : List Str) (xs : List V), ns.length = xs.length → g ∉ ns → putF g u (ns.zip xs) = (ns ++ [g]).zip (xs ++ [u]) := by
    intro ns
    induction ns with
    | nil => intro xs h _; cases xs with
      | nil => rfl
      | cons _ _ => simp at h
    | cons m ns ih => intro xs h hn; cases xs with
      | nil => simp at h
      | cons y xs =>
        have hm : ¬ m = g := fun z => hn (by rw [z]; exact List.mem_cons_self ..)
        show (if m = g then (m, u) :: ns.zip xs else (m, y) :: putF g u (ns.zip xs)) = _
        rw [if_neg hm, ih xs (by simpa using h) fun z => hn (List.mem_cons_of_mem _ z)]
        rfl
  refine ⟨l, C, dx, _, rfl, g1, c, na, ?_, ?_⟩
  · rw [List.length_zip, g2, g3.length', Nat.min_self, ← g3.length']; exact hlen
  · rw [hz ns xs hx hg]
    have up := l2.same
    have z := st0_other (H' := upd H2 l (.ins C dx ((ns ++ [g]).zip (xs ++ [u])))) (c' := .ins C (ns ++ [g]) (rs ++ [r])) s2 hl hc (fun z => by cases z) (fun z => by cases z) (fun b o hb e => by rw [upd_ne hb]; exact e) (by rw [upd_same]; exact fun z => by cases z) ⟨dx, xs ++ [u], upd_same, by simp [g2], by
      have em : F.g ls2 own2 (upd H2 l (.ins C dx ((ns ++ [g]).zip (xs ++ [u])))) = F.g ls2 own2 H2 := msk_upd_in (List.mem_append_right _ (live_get hl hc fun z => by cases z))
      rw [em]
      exact Paired.snoc g3 (rr.up l2.pre l2.same)⟩
    exact k.nx _ _ _ ρ σ ((l1.trans l2).trans z.2) z.1 (sr.up ((l1.trans l2).trans z.2).pre ((l1.trans l2).trans z.2).same) q
end
end DL

namespace DL
open PySem PySem.Spec PyProof.Rows L2

/-! ### new cells, cells that are given up -/
section
variable {K : PySem.W.Frag} {F : Fm} {ls : List Addr} {own : List Cell} {H H' : Hp}
theorem st0_adopt (st : St0 K F ls own H) (sm : Same H H') {p : Addr} {c : Cell} (hp : H p = none) (hc : c ≠ .gone) (at' : CellAt K (ls ++ [p]) (msk (F.S0 ++ live ls own ++ [p]) H') H' p c) : St0 K F (ls ++ [p]) (own ++ [c]) H' ∧ Le F ls own H (ls ++ [p]) (own ++ [c]) H' := by
  have el : F.g (ls ++ [p]) (own ++ [c]) H' = msk (F.S0 ++ live ls own ++ [p]) H' := by
    show msk (F.S0 ++ live (ls ++ [p]) (own ++ [c])) H' = _
    rw [live_snoc st.len hc, List.append_assoc]
  have hid : p ∉ F.S0 ++ live ls own := fun z => st.hid p z hp
  have sg : Same (F.g ls own H) (msk (F.S0 ++ live ls own ++ [p]) H') := fun b o e => by
    have hb : b ≠ p := fun z => by
      subst z
      have := msk_same _ _ _ _ e
      rw [hp] at this; cases this
    have e : msk (F.S0 ++ live ls own) H b = some o := e
    unfold msk at e ⊢
    split at e
    · cases e
    · rename_i hn
      rw [if_neg (by rw [List.mem_append, List.mem_singleton]; exact fun z => z.elim hn hb)]
      exact sm b o e
  have h0 : F.H0 p = none := by
    cases q : F.H0 p with
    | none => rfl
    | some o => exact absurd hp (st.dom p (by rw [q]; exact fun z => by cases z))
  have pn : p ∉ ls := fun z => st.there p z hp
  refine ⟨⟨by rw [List.length_append, List.length_append, st.len]; rfl, ?_, fun l hl => ?_, fun j b c1 e1 e2 => ?_, fun b o hb e => sm _ _ (st.keep b o hb e), fun b hb => ?_, st.s0, fun b hb => ?_, st.ap.trans (List.prefix_append _ _), st.as.trans (by rw [el]; exact sg)⟩, ⟨List.prefix_append _ _, by rw [el]; exact sg⟩⟩
  · rw [List.nodup_append]
    exact ⟨st.nd, by simp, fun a ha b hb => by rw [List.mem_singleton.mp hb]; exact fun z => pn (z ▸ ha)⟩
  · rcases List.mem_append.mp hl with h | h
    · exact st.new l h
    · rw [List.mem_singleton.mp h]
      exact ⟨fun z => hid (List.mem_append_left _ z), .inl h0⟩
  · rw [el]
    by_cases hj : j < own.length
    · rw [List.getElem?_append_left hj] at e2
      rw [List.getElem?_append_left (by rw [st.len]; exact hj)] at e1
      exact (st.at_ j b c1 e1 e2).up (List.prefix_append _ _) sg fun o e => sm _ _ e
    · rw [List.getElem?_append_right (by omega)] at e2
      rw [List.getElem?_append_right (by rw [st.len]; omega), st.len] at e1
      cases q : j - own.length with
      | zero =>
        rw [q] at e1 e2
        simp at e1 e2
        subst e1; subst e2
        exact at'
      | succ n => rw [q] at e1; simp at e1
  · have := st.dom b hb
    cases q : H b with
    | none => exact absurd q this
    | some o => rw [sm b o q]; exact fun z => by cases z
  · rcases List.mem_append.mp hb with h | h
    · have := st.there b h
      cases q : H b with
      | none => exact absurd q this
      | some o => rw [sm b o q]; exact fun z => by cases z
    · rw [List.mem_singleton.mp h]
      cases c with
      | gone => exact absurd rfl hc
      | lst rs => obtain ⟨xs, e, _⟩ := at'; rw [e]; exact fun z => by cases z
      | ins C ns rs => obtain ⟨dx, xs, e, _⟩ := at'; rw [e]; exact fun z => by cases z
      | any P => obtain ⟨xs, ds, e, _⟩ := at'; rw [e]; exact fun z => by cases z
/-- a list that no longer changes: data from now on -/
def subR (n : Nat) (d : D) : R → R
  | .c k => if k = n then .d d else .c k
  | .d x => .d x
theorem live_gone : ∀ {ls : List Addr} {own : List Cell} {n : Nat} {l : Addr}, ls.Nodup → ls[n]? = some l → l ∉ live ls (own.set n .gone)
  | [], _, _, _, _, h => by simp at h
  | a :: ls, [], n, l, _, _ => by simp [live]
  | a :: ls, e :: own, 0, l, nd, h => by
    simp at h
    subst h
    simp only [List.set_cons_zero, live]
    exact fun z => (List.nodup_cons.mp nd).1 (live_mem z)
  | a :: ls, e :: own, n + 1, l, nd, h => by
    have ih := live_gone (ls := ls) (own := own) (n := n) (l := l) (List.nodup_cons.mp nd).2 (by simpa using h)
    have hal : l ≠ a := fun z => (List.nodup_cons.mp nd).1 (z ▸ List.mem_of_getElem? (by simpa using h))
    simp only [List.set_cons_succ]
    cases e <;> simp only [live, List.mem_cons, not_or]
    · exact ih
    all_goals exact ⟨hal, ih⟩
theorem live_gone_le : ∀ {ls : List Addr} {own : List Cell} {n : Nat} {b : Addr}, b ∈ live ls (own.set n .gone) → b ∈ live ls own
  | [], _, _, _, h => by simp [live] at h
  | a :: ls, [], n, b, h => by simpa using h
  | a :: ls, e :: own, 0, b, h => by
    simp only [List.set_cons_zero, live] at h
    cases e <;> simp only [live, List.mem_cons]
    · exact h
    all_goals exact .inr h
  | a :: ls, e :: own, n + 1, b, h => by
    simp only [List.set_cons_succ] at h
    cases e <;> simp only [live, List.mem_cons] at h ⊢
    · exact live_gone_le h
    all_goals exact h.imp id live_gone_le
theorem st0_freeze (st : St0 K F ls own H) {n : Nat} {ds : List D} (hc : own[n]? = some (.lst (ds.map R.d))) : St0 K F ls (own.set n .gone) H ∧ Le F ls own H ls (own.set n .gone) H ∧
    ∀ {r : R} {v : V}, RRep K ls (F.g ls own H) r v → RRep K ls (F.g ls (own.set n .gone) H) (subR n (.lst ds) r) v := by
  have sg : Same (F.g ls own H) (F.g ls (own.set n .gone) H) := msk_le fun b hb => by
    rcases List.mem_append.mp hb with h | h
    · exact List.mem_append_left _ h
    · exact List.mem_append_right _ (live_gone_le h)
  refine ⟨⟨by rw [List.length_set]; exact st.len, st.nd, st.new, fun j b c e1 e2 => ?_, st.keep, st.dom, st.s0, st.there, st.ap, st.as.trans sg⟩, ⟨List.prefix_rfl, sg⟩, fun {r v} h => ?_⟩
  · by_cases hj : n = j
    · subst hj
      have hlt : n < own.length := (List.getElem?_eq_some_iff.mp hc).1
      rw [List.getElem?_set_self hlt] at e2
      cases e2
      exact True.intro
    · rw [List.getElem?_set_ne hj] at e2
      exact (st.at_ j b c e1 e2).up List.prefix_rfl sg fun o e => e
  · cases r with
    | d x => exact Rep.mono sg h
    | c k =>
      obtain ⟨l, hl, rfl⟩ := h
      by_cases hk : k = n
      · subst hk
        obtain ⟨xs, g1, g2⟩ := st.at_ k l _ hl hc
        simp only [subR, if_true, RRep, Rep]
        refine ⟨l, xs, rfl, ?_, Reps.mono sg (RReps.toD g2)⟩
        show msk (F.S0 ++ live ls (own.set k .gone)) H l = _
        rw [msk_out]
        · exact g1
        · rw [List.mem_append]
          exact fun z => z.elim (st.new l (List.mem_of_getElem? hl)).1 (live_gone st.nd hl)
      · simp only [subR, if_neg hk]
        exact ⟨l, hl, rfl⟩
end

section
variable {X : Cx} {F : Fm} {own : List Cell} {ρ : Ro} {Q : QE} {P : Po} {e b iter tg : Expr} {es : List Expr} {pos : Pos} {st : Stmt} {sts body rest : List Stmt}
theorem srep_freeze {n : Nat} {d : D} {K ls G G'} (h : ∀ {r : R} {v : V}, RRep K ls G r v → RRep K ls G' (subR n d r) v) : ∀ {ρ : Ro} {σ : L2.St}, SRep K ls G ρ σ → SRep K ls G' (ρ.map (Option.map (subR n d))) σ
  | _, _, .nil => .nil
  | _, _, .cons (a := a) (b := b) q t => .cons (by
      cases a with
      | none => exact True.intro
      | some r => cases b with
        | none => exact q.elim
        | some v => exact h q) (srep_freeze h t)
theorem W.freeze (n : Nat) {ds : List D} (hc : own[n]? = some (.lst (ds.map R.d))) (h : W X F sts P (own.set n .gone) (ρ.map (Option.map (subR n (.lst ds))))) : W X F sts P own ρ := by
  constructor
  intro ls σ H s0 sr De k
  obtain ⟨a, b, c⟩ := st0_freeze s0 hc
  exact h ls σ H a (srep_freeze c sr) De (k.up b)
/-- what is known of a cell is opened -/
theorem W.openC (n : Nat) {I : List D → Prop} (hc : own[n]? = some (.any I)) (h : ∀ ds, I ds → W X F sts P (own.set n (.lst (ds.map R.d))) ρ) : W X F sts P own ρ := by
  constructor
  intro ls σ H s0 sr De k
  have hn : n < ls.length := by rw [s0.len]; exact (List.getElem?_eq_some_iff.mp hc).1
  have hl : ls[n]? = some ls[n] := List.getElem?_eq_getElem hn
  obtain ⟨xs, ds, g1, g2, g3⟩ := s0.at_ n _ _ hl hc
  have z := st0_other (c' := .lst (ds.map R.d)) s0 hl hc (fun z => by cases z) (fun z => by cases z) (fun b o _ e => e) (by rw [g1]; exact fun z => by cases z) ⟨xs, g1, RReps.ofD g2⟩
  exact h ds g3 ls σ H z.1 (sr.up z.2.pre z.2.same) De (k.up z.2)
/-- .. and closed again -/
theorem W.closeC (n : Nat) {I : List D → Prop} {ds : List D} (hc : own[n]? = some (.lst (ds.map R.d))) (hi : I ds) (h : W X F sts P (own.set n (.any I)) ρ) : W X F sts P own ρ := by
  constructor
  intro ls σ H s0 sr De k
  have hn : n < ls.length := by rw [s0.len]; exact (List.getElem?_eq_some_iff.mp hc).1
  have hl : ls[n]? = some ls[n] := List.getElem?_eq_getElem hn
  obtain ⟨xs, g1, g2⟩ := s0.at_ n _ _ hl hc
  have z := st0_other (c' := .any I) s0 hl hc (fun z => by cases z) (fun z => by cases z) (fun b o _ e => e) (by rw [g1]; exact fun z => by cases z) ⟨xs, ds, g1, RReps.toD g2, hi⟩
  exact h ls σ H z.1 (sr.up z.2.pre z.2.same) De (k.up z.2)
/-- a written list that will change: a new cell -/
theorem E.lstC (h : A X F es (fun o rs => rs.length ≤ sizeLine ∧ Q (o ++ [.lst rs]) (.c o.length)) own ρ) : E X F (.List es pos) Q own ρ := by
  constructor
  intro ls σ H s0 sr Qv k
  refine (pe_lst pa_wa).to ?_
  refine h ls σ H s0 sr _ fun ls1 own1 H1 rs vs l1 s1 rr ⟨hl, q⟩ => ?_
  refine ⟨by rw [← rr.length']; exact hl, fun p hp => ?_⟩
  have em : msk (F.S0 ++ live ls1 own1 ++ [p]) (upd H1 p (.lst vs)) = msk (F.S0 ++ live ls1 own1) H1 := by
    rw [msk_upd_in (List.mem_append_right _ (List.mem_singleton.mpr rfl))]
    funext c
    unfold msk
    by_cases hc : c = p
    · subst hc
      rw [if_pos (List.mem_append_right _ (List.mem_singleton.mpr rfl))]
      split
      · rfl
      · exact hp.symm
    · simp only [List.mem_append, List.mem_singleton, hc, or_false]
  have z := st0_adopt (c := .lst rs) s1 (same_new (o := .lst vs) hp) hp (fun z => by cases z) ⟨vs, upd_same, by rw [em]; exact rr.up (List.prefix_append _ _) (Same.refl _)⟩
  exact k _ _ _ (.c own1.length) _ (l1.trans z.2) z.1 ⟨p, by rw [← s1.len]; simp, rfl⟩ q
/-- list(x) that will change -/
theorem Cl.listC {ds : List D} (h : Q (own ++ [.lst (ds.map R.d)]) (.c own.length)) : Cl X F (.type "list") [.d (.lst ds)] Q own := by
  constructor
  intro ls H vs s1 rr Qv k
  obtain ⟨v, rfl, rv⟩ := rrs1 rr
  obtain ⟨a, xs, rfl, hs, hr⟩ := lst_rr rv
  refine call_list_of.to ⟨a, xs, rfl, .inl (sq_h hs), fun p hp => ?_⟩
  have em : msk (F.S0 ++ live ls own ++ [p]) (upd H p (.lst xs)) = msk (F.S0 ++ live ls own) H := by
    rw [msk_upd_in (List.mem_append_right _ (List.mem_singleton.mpr rfl))]
    funext c
    unfold msk
    by_cases hc : c = p
    · subst hc
      rw [if_pos (List.mem_append_right _ (List.mem_singleton.mpr rfl))]
      split
      · rfl
      · exact hp.symm
    · simp only [List.mem_append, List.mem_singleton, hc, or_false]
  have z := st0_adopt (c := .lst (ds.map R.d)) s1 (same_new (o := .lst xs) hp) hp (fun z => by cases z) ⟨xs, upd_same, by rw [em]; exact RReps.ofD hr⟩
  exact k _ _ _ (.c own.length) _ z.2 z.1 ⟨p, by rw [← s1.len]; simp, rfl⟩ h
/-- x.append(e), x a cell -/
theorem E.append {apos cpos : Pos} {o : Expr} (h : E X F o (fun o1 t => ∃ n, t = .c n ∧ E X F e (fun o2 r => ∃ rs, o2[n]? = some (.lst rs) ∧ rs.length < sizeLine ∧ Q (o2.set n (.lst (rs ++ [r]))) (.d .non)) o1 ρ ∧ ∃ rs, o1[n]? = some (.lst rs)) own ρ)
    (hbase : attributeBase o "append" X.env (eval o X.env) = eval o X.env := by rfl)
    (hfew : ((backTo cpos (starEach [e] X.env)).all (fun x => !x.1) && (backToKw cpos (keywordEach [] X.env)).all (fun x => x.1.isSome)
      && decide ([e].length + ([] : List Keyword).length + (if ([] : List Keyword).isEmpty then 0 else 1) < 30)) = true := by rfl)
    (hline : (apos.endLine == cpos.line) = true := by rfl) (hs : starEach [e] X.env = (false, eval e X.env) :: starEach [] X.env := by rfl) (hplain : (backTo cpos (starEach [] X.env)).any (·.1) = false := by rfl) : E X F (.Call (.Attribute o "append" apos) [e] [] cpos) Q own ρ := by
  constructor
  intro ls σ H s0 sr Qv k
  refine (pe_bm PySem.F.plainAttrs_list PySem.F.slot_list_append PySem.F.type_list_append mt_append pe_we (pa_cons pe_we pa_nil hs) hbase hfew hline hs hplain).to ?_
  refine h ls σ H s0 sr _ fun ls1 own1 H1 t u l1 s1 rt ⟨n, et, he, rs0, hc0⟩ => ?_
  subst et
  obtain ⟨l, hl, rfl⟩ := rt
  obtain ⟨xs0, g0, _⟩ := s1.at_ n l _ hl hc0
  refine ⟨.inl ⟨rfl, _, .inl (.inl g0)⟩, ?_⟩
  refine he ls1 σ H1 s1 (sr.up l1.pre l1.same) _ fun ls2 own2 H2 r v l2 s2 rr ⟨rs, hc, hz, q⟩ => ?_
  have hl2 := pre_get l2.pre hl
  obtain ⟨xs, g1, g2⟩ := s2.at_ n l _ hl2 hc
  refine ⟨l, xs, v, rfl, rfl, g1, by rw [← g2.length']; exact hz, ?_⟩
  have em : F.g ls2 own2 (upd H2 l (.lst (xs ++ [v]))) = F.g ls2 own2 H2 := msk_upd_in (List.mem_append_right _ (live_get hl2 hc fun z => by cases z))
  have z := st0_other (H' := upd H2 l (.lst (xs ++ [v]))) (c' := .lst (rs ++ [r])) s2 hl2 hc (fun z => by cases z) (fun z => by cases z) (fun b o hb e => by rw [upd_ne hb]; exact e) (by rw [upd_same]; exact fun z => by cases z) ⟨xs ++ [v], upd_same, by rw [em]; exact Paired.snoc g2 rr⟩
  exact k _ _ _ (.d .non) _ ((l1.trans l2).trans z.2) z.1 ir_non q
/-- a[i] = e, a a cell -/
theorem W1.setIx {a : Expr} {p2 : Pos} (h : E X F e (fun o1 r => E X F a (fun o2 t => E X F b (fun o3 i => ∃ n k j rs, t = .c n ∧ i = .d (.int k) ∧ o3[n]? = some (.lst rs) ∧ ixN rs.length k = some j ∧ P.nx (o3.set n (.lst (rs.set j r))) ρ) o2 ρ) o1 ρ) own ρ)
    (ha : ∀ v, assign (.Subscript a b p2) X.env v = (do
      let ov ← holding [v] (eval a X.env)
      let iv ← holding [v, ov] (eval b X.env)
      standAt p2
      holding [v, ov, iv] (setItem ov iv v)
      release [v, ov, iv] []) := by intro _; rfl)
    (hs : swapsWithSole [.Subscript a b p2] e pos.line X.env = pure false := by rfl) (hw : swappedStores [.Subscript a b p2] e X.env = pure none := by rfl)
    (h1 : (assignEach [.Subscript a b p2] X.env).map (·.2) = [assign (.Subscript a b p2) X.env] := by rfl) : W1 X F (.Assign [.Subscript a b p2] e pos) P own ρ := by
  constructor
  intro ls σ H s0 sr De k
  refine (ps_asg pe_we (pg_sub pe_we pe_we set_list ha) hs hw h1).to ?_
  refine h ls σ H s0 sr _ fun ls1 own1 H1 r v l1 s1 rr he => ?_
  refine he ls1 σ H1 s1 (sr.up l1.pre l1.same) _ fun ls2 own2 H2 t u l2 s2 rt he => ?_
  refine he ls2 σ H2 s2 (sr.up (l1.trans l2).pre (l1.trans l2).same) _ fun ls3 own3 H3 i y l3 s3 ri ⟨n, kk, j, rs, et, ei, hc, hj, q⟩ => ?_
  subst et; subst ei
  cases rr_int ri
  obtain ⟨l, hl, rfl⟩ := rt.up l3.pre l3.same
  obtain ⟨xs, g1, g2⟩ := s3.at_ n l _ hl hc
  refine ⟨l, xs, kk, j, rfl, rfl, g1, by rw [← g2.length']; exact hj, ?_⟩
  have em : F.g ls3 own3 (upd H3 l (.lst (xs.set j v))) = F.g ls3 own3 H3 := msk_upd_in (List.mem_append_right _ (live_get hl hc fun z => by cases z))
  have setP : ∀ {rs : List R} {xs : List V} (j : Nat) {r : R} {v : V} {K ls G}, RRep K ls G r v → RReps K ls G rs xs → RReps K ls G (rs.set j r) (xs.set j v) := by
    intro rs xs j r v K ls G h t
    induction t generalizing j with
    | nil => exact .nil
    | cons a t ih => cases j with
      | zero => exact .cons h t
      | succ j => exact .cons a (ih j)
  have z := st0_other (H' := upd H3 l (.lst (xs.set j v))) (c' := .lst (rs.set j r)) s3 hl hc (fun z => by cases z) (fun z => by cases z) (fun b o hb e => by rw [upd_ne hb]; exact e) (by rw [upd_same]; exact fun z => by cases z) ⟨xs.set j v, upd_same, by rw [em]; exact setP j (rr.up (l2.trans l3).pre (l2.trans l3).same) g2⟩
  have le := ((l1.trans l2).trans l3).trans z.2
  exact k.nx _ _ _ ρ σ le z.1 (sr.up le.pre le.same) q

/-! ### targets -/
structure Tg (X : Cx) (F : Fm) (tg : Expr) (r : R) (Q : List Cell → Ro → Prop) (own : List Cell) (ρ : Ro)  : Prop where
  mk :: (run : ∀ ls σ H v, St0 X.K F ls own H → SRep X.K ls (F.g ls own H) ρ σ → RRep X.K ls (F.g ls own H) r v → ∀ Qs : L2.St → Hp → Prop,
    (∀ ls' own' H' ρ' σ', Le F ls own H ls' own' H' → St0 X.K F ls' own' H' → SRep X.K ls' (F.g ls' own' H') ρ' σ' → Q own' ρ' → Qs σ' H') → wpg X tg v σ H Qs)
instance {X : Cx} {F : Fm} {tg : Expr} {r : R} {Q : List Cell → Ro → Prop} {own : List Cell} {ρ : Ro}  : CoeFun (Tg X F tg r Q own ρ) (fun _ => ∀ ls σ H v, St0 X.K F ls own H → SRep X.K ls (F.g ls own H) ρ σ → RRep X.K ls (F.g ls own H) r v → ∀ Qs : L2.St → Hp → Prop,
    (∀ ls' own' H' ρ' σ', Le F ls own H ls' own' H' → St0 X.K F ls' own' H' → SRep X.K ls' (F.g ls' own' H') ρ' σ' → Q own' ρ' → Qs σ' H') → wpg X tg v σ H Qs) := ⟨Tg.run⟩
theorem pg_w {tg : Expr} : PG X tg (wpg X tg) := ⟨fun pins s σ H v u Q I r h => h pins s u I r⟩
theorem _root_.L2.PG.to {tg : Expr} {t : TG} {v : V} {σ : L2.St} {H : Hp} {Q : L2.St → Hp → Prop} (p : PG X tg t) (h : t v σ H Q) : wpg X tg v σ H Q := fun pins s u I r => p.run pins s σ H v u Q I r h
theorem Tg.name (i : Nat) {x : Str} {r : R} {Q : List Cell → Ro → Prop} (h : Q own (ρ.set i (some r))) (hN : X.N.Nodup) (hi : X.N[i]? = some x := by rfl) (hx : Loc X.env.scope x := by first | exact Or.inl rfl | exact Or.inr rfl) (hf : X.fn x = true ∨ X.env.scope.names.lookup x = some .local := by first | exact .inl rfl | exact .inr rfl | assumption) : Tg X F (.Name x pos) r Q own ρ := by
  constructor
  intro ls σ H v s0 sr rv Qs k
  exact (pg_name hN hi hx hf).to (k _ _ _ _ _ Le.refl s0 (SRep.set rv i sr) h)
def wpgs (X : Cx) (ts : List Expr) : TGs := fun vs σ H Q => ∀ pins s us, Inv X pins σ H s → Vals vs us → wpAny (model X.prog X.w) X.A (assignInOrder ((assignEach ts X.env).map (·.2)) us) (fun _ s' => ∃ σ' H', Inv X pins σ' H' s' ∧ Q σ' H') X.xe s
theorem pgs_w {ts : List Expr} : PGs X ts (wpgs X ts) := ⟨fun pins s σ H v u Q I r h => h pins s u I r⟩
theorem _root_.L2.PGs.to {ts : List Expr} {t : TGs} {v : List V} {σ : L2.St} {H : Hp} {Q : L2.St → Hp → Prop} (p : PGs X ts t) (h : t v σ H Q) : wpgs X ts v σ H Q := fun pins s u I r => p.run pins s σ H v u Q I r h
structure Tgs (X : Cx) (F : Fm) (tgs : List Expr) (rs : List R) (Q : List Cell → Ro → Prop) (own : List Cell) (ρ : Ro)  : Prop where
  mk :: (run : ∀ ls σ H vs, St0 X.K F ls own H → SRep X.K ls (F.g ls own H) ρ σ → RReps X.K ls (F.g ls own H) rs vs → ∀ Qs : L2.St → Hp → Prop,
    (∀ ls' own' H' ρ' σ', Le F ls own H ls' own' H' → St0 X.K F ls' own' H' → SRep X.K ls' (F.g ls' own' H') ρ' σ' → Q own' ρ' → Qs σ' H') → wpgs X tgs vs σ H Qs)
instance {X : Cx} {F : Fm} {tgs : List Expr} {rs : List R} {Q : List Cell → Ro → Prop} {own : List Cell} {ρ : Ro}  : CoeFun (Tgs X F tgs rs Q own ρ) (fun _ => ∀ ls σ H vs, St0 X.K F ls own H → SRep X.K ls (F.g ls own H) ρ σ → RReps X.K ls (F.g ls own H) rs vs → ∀ Qs : L2.St → Hp → Prop,
    (∀ ls' own' H' ρ' σ', Le F ls own H ls' own' H' → St0 X.K F ls' own' H' → SRep X.K ls' (F.g ls' own' H') ρ' σ' → Q own' ρ' → Qs σ' H') → wpgs X tgs vs σ H Qs) := ⟨Tgs.run⟩
theorem Tgs.nil {Q : List Cell → Ro → Prop} (h : Q own ρ) : Tgs X F [] [] Q own ρ := .mk fun ls σ H vs s0 sr rr Qs k => by
  cases rr
  exact pgs_nil.to ⟨rfl, k _ _ _ _ _ Le.refl s0 sr h⟩
theorem Tgs.cons {tgs : List Expr} {r : R} {rs : List R} {Q : List Cell → Ro → Prop} (h : Tg X F tg r (fun o ρ' => Tgs X F tgs rs Q o ρ') own ρ) (hs : (assignEach (tg :: tgs) X.env).map (·.2) = assign tg X.env :: (assignEach tgs X.env).map (·.2) := by rfl) : Tgs X F (tg :: tgs) (r :: rs) Q own ρ := by
  constructor
  intro ls σ H vs s0 sr rr Qs k
  cases rr with
  | cons r0 rr =>
    refine (pgs_cons pg_w pgs_w hs).to ⟨_, _, rfl, ?_⟩
    refine h ls σ H _ s0 sr r0 _ fun ls1 own1 H1 ρ1 σ1 l1 s1 sr1 q => ?_
    exact q ls1 σ1 H1 _ s1 sr1 (RReps.up l1.pre l1.same rr) Qs fun _ _ _ _ _ l => k _ _ _ _ _ (l1.trans l)
theorem Tg.tup {tgs : List Expr} {k0 : Nat} {ds : List D} {Q : List Cell → Ro → Prop} (hc : X.calm = true) (h : Tgs X F tgs (ds.map R.d) Q own ρ) (hl : ds.length = tgs.length) (hn : (assignEach tgs X.env).length = tgs.length := by rfl) (hst : (assignEach tgs X.env).findIdx? (·.1) = none := by rfl) : Tg X F (.Tuple tgs k0 pos) (.d (.tup ds)) Q own ρ := by
  constructor
  intro ls σ H v s0 sr rv Qs k
  obtain ⟨p, xs, rfl, hs, hr⟩ := tup_rr rv
  refine (pg_tup hc pgs_w hn hst).to ⟨p, xs, rfl, Same.seqT (msk_same _ _) hs, by rw [← hr.length]; exact hl, ?_⟩
  exact h ls σ H xs s0 sr (RReps.ofD hr) Qs k
/-- a, b = e -/
theorem W1.asg (h : E X F e (fun o r => Tg X F tg r P.nx o ρ) own ρ) (hs : swapsWithSole [tg] e pos.line X.env = pure false := by rfl) (hw : swappedStores [tg] e X.env = pure none := by rfl)
    (h1 : (assignEach [tg] X.env).map (·.2) = [assign tg X.env] := by rfl) : W1 X F (.Assign [tg] e pos) P own ρ := by
  constructor
  intro ls σ H s0 sr De k
  refine (ps_asg pe_we pg_w hs hw h1).to ?_
  refine h ls σ H s0 sr _ fun ls1 own1 H1 r v l1 s1 rr q => ?_
  exact q ls1 σ H1 v s1 (sr.up l1.pre l1.same) rr _ fun _ _ _ ρ' σ' l s r q => k.nx _ _ _ _ _ (l1.trans l) s r q

/-! ### loops -/
/-- a loop's state -/
def Pv (X : Cx) (F : Fm) (ls : List Addr) (own : List Cell) (H : Hp) (I : Nat → List Cell → Ro → Prop) (i : Nat) (σ : L2.St) (H' : Hp) : Prop :=
  ∃ ls' own' ρ', Le F ls own H ls' own' H' ∧ St0 X.K F ls' own' H' ∧ SRep X.K ls' (F.g ls' own' H') ρ' σ ∧ I i own' ρ'
theorem for_gen {K : PySem.W.Frag} {a : Addr} {n : Nat} {g : TG} {tb : TS} {De : Ends} {σ : L2.St} {H : Hp} (Pv : Nat → L2.St → Hp → Prop) (h0 : Pv 0 σ H) (hl : ∀ i σ H, Pv i σ H → ∃ xs, SqL K H a xs ∧ xs.length = n)
    (hs : ∀ i x σ H xs, i < n → SqL K H a xs → xs[i]? = some x → (∀ ys, SqL K H a ys → ys[i]? = some x) → Pv i σ H → g x σ H fun σ2 H2 => tb { De with nx := Pv (i + 1), ct := Pv (i + 1), bk := De.nx } σ2 H2) (hd : ∀ σ H, Pv n σ H → De.nx σ H) :
    ∃ W : Nat → Nat → L2.St → Hp → Prop, (∃ m, W 0 m σ H) ∧ ∀ i m σ H, W i m σ H →
      ((Itl K a).stop i H ∧ De.nx σ H) ∨ ((Itl K a).go i H ∧ ∃ N : L2.St → Hp → Prop, (∀ σ' H', N σ' H' → ∃ m', m' < m ∧ W (i + 1) m' σ' H') ∧ ∀ x H', (Itl K a).yld i H x H' → g x σ H' fun σ2 H2 => tb { De with nx := N, ct := N, bk := De.nx } σ2 H2) := by
  refine ⟨fun i m σ H => m = n - i ∧ i ≤ n ∧ Pv i σ H, ⟨n, by simp, Nat.zero_le _, h0⟩, ?_⟩
  rintro i m σ H ⟨rfl, hi, p⟩
  obtain ⟨xs, q, ln⟩ := hl i σ H p
  by_cases hlt : i < n
  · refine .inr ⟨⟨xs, xs[i]'(by rw [ln]; exact hlt), q, by simp [ln, hlt]⟩, Pv (i + 1), fun σ' H' p' => ⟨n - (i + 1), by omega, rfl, hlt, p'⟩, fun x H' y => ?_⟩
    obtain ⟨e, y⟩ := y
    subst e
    exact hs i x σ _ xs hlt q (y xs q) y p
  · have e : i = n := by omega
    subst e
    exact .inl ⟨⟨xs, q, by rw [ln]; exact Nat.le_refl _⟩, hd σ H p⟩
/-- for x in a list that stands still -/
theorem W1.forL (I : Nat → List Cell → Ro → Prop) (hc : X.calm = true) (hp : PassesOwn (model X.prog X.w) X.A X.env X.xe)
    (h : E X F iter (fun o r => ∃ ds, (r = .d (.lst ds) ∨ r = .d (.rol ds)) ∧ I 0 o ρ ∧ (∀ i d o' ρ', ds[i]? = some d → I i o' ρ' → Tg X F tg (.d d) (fun o2 ρ2 => W X F body { nx := I (i + 1), rt := P.rt, bk := P.nx, ct := I (i + 1) } o2 ρ2) o' ρ') ∧ ∀ o' ρ', I ds.length o' ρ' → P.nx o' ρ') own ρ)
    (hs : ∀ x, foldedSetIterable iter X.env x = pure x := by intro _; rfl) : W1 X F (.For tg iter body [] pos) P own ρ := by
  constructor
  intro ls σ H s0 sr De k
  refine (ps_for hp hc (pi_list pe_we) pg_w pss_ws hs).to ?_
  refine h ls σ H s0 sr _ fun ls1 own1 H1 r v l1 s1 rr ⟨ds, er, i0, turn, fin⟩ => ?_
  obtain ⟨p, xs, rfl, hq, hr⟩ : ∃ p xs, v = .ref p ∧ SqL X.K (F.g ls1 own1 H1) p xs ∧ Reps X.K (F.g ls1 own1 H1) ds xs := by
    rcases er with rfl | rfl
    · obtain ⟨p, xs, e, g1, g2⟩ := lst_rr rr
      exact ⟨p, xs, e, .inl (.inl g1), g2⟩
    · simpa only [RRep, Rep] using rr
  refine ⟨p, rfl, ⟨xs, (msk_same _ _).seq hq⟩, ?_⟩
  refine for_gen (n := ds.length) (Pv X F ls1 own1 H1 I) ⟨ls1, own1, ρ, Le.refl, s1, sr.up l1.pre l1.same, i0⟩ (fun i σ' H' ⟨_, _, _, l, _⟩ => ⟨xs, (msk_same _ _).seq (l.same.seq hq), hr.length.symm⟩) ?_ ?_
  · rintro i x σ' H' _ hi _ _ hall ⟨ls2, own2, ρ2, l2, s2, sr2, ii⟩
    have hx := hall xs ((msk_same _ _).seq (l2.same.seq hq))
    have hdi : ds[i]? = some ds[i] := List.getElem?_eq_getElem hi
    obtain ⟨y, e1, e2⟩ := hr.get hdi
    rw [hx] at e1
    cases e1
    refine turn i _ own2 ρ2 hdi ii ls2 σ' H' x s2 sr2 (Rep.mono l2.same e2) _ fun ls3 own3 H3 ρ3 σ3 l3 s3 sr3 q => ?_
    exact q ls3 σ3 H3 s3 sr3 _ ⟨fun _ _ _ _ _ l s r q => ⟨_, _, _, (l2.trans l3).trans l, s, r, q⟩, fun _ _ _ _ _ l s r q => k.rt _ _ _ _ _ (l1.trans ((l2.trans l3).trans l)) s r q, fun _ _ _ _ _ l s r q => k.nx _ _ _ _ _ (l1.trans ((l2.trans l3).trans l)) s r q, fun _ _ _ _ _ l s r q => ⟨_, _, _, (l2.trans l3).trans l, s, r, q⟩⟩
  · rintro σ' H' ⟨ls2, own2, ρ2, l2, s2, sr2, ii⟩
    exact k.nx _ _ _ _ _ (l1.trans l2) s2 sr2 (fin _ _ ii)
/-- for x in a cell that the loop leaves as it is -/
theorem W1.forC (I : Nat → List Cell → Ro → Prop) (hc : X.calm = true) (hp : PassesOwn (model X.prog X.w) X.A X.env X.xe)
    (h : E X F iter (fun o r => ∃ n rs, r = .c n ∧ o[n]? = some (.lst rs) ∧ I 0 o ρ ∧ (∀ i o' ρ', I i o' ρ' → o'[n]? = some (.lst rs)) ∧ (∀ i d o' ρ', rs[i]? = some d → I i o' ρ' → Tg X F tg d (fun o2 ρ2 => W X F body { nx := I (i + 1), rt := P.rt, bk := P.nx, ct := I (i + 1) } o2 ρ2) o' ρ') ∧ ∀ o' ρ', I rs.length o' ρ' → P.nx o' ρ') own ρ)
    (hs : ∀ x, foldedSetIterable iter X.env x = pure x := by intro _; rfl) : W1 X F (.For tg iter body [] pos) P own ρ := by
  constructor
  intro ls σ H s0 sr De k
  refine (ps_for hp hc (pi_list pe_we) pg_w pss_ws hs).to ?_
  refine h ls σ H s0 sr _ fun ls1 own1 H1 r v l1 s1 rr ⟨n, rs, er, hcell, i0, stay, turn, fin⟩ => ?_
  subst er
  obtain ⟨p, hl, rfl⟩ := rr
  obtain ⟨xs, g1, g2⟩ := s1.at_ n p _ hl hcell
  refine ⟨p, rfl, ⟨xs, .inl (.inl g1)⟩, ?_⟩
  refine for_gen (n := rs.length) (Pv X F ls1 own1 H1 I) ⟨ls1, own1, ρ, Le.refl, s1, sr.up l1.pre l1.same, i0⟩ (fun i σ' H' ⟨ls2, own2, _, l, s2, _, ii⟩ => ?_) ?_ ?_
  · obtain ⟨ys, e1, e2⟩ := s2.at_ n p _ (pre_get l.pre hl) (stay _ _ _ ii)
    exact ⟨ys, .inl (.inl e1), e2.length'.symm⟩
  · rintro i x σ' H' _ hi _ _ hall ⟨ls2, own2, ρ2, l2, s2, sr2, ii⟩
    obtain ⟨ys, f1, f2⟩ := s2.at_ n p _ (pre_get l2.pre hl) (stay _ _ _ ii)
    have hx := hall ys (.inl (.inl f1))
    have hdi : rs[i]? = some rs[i] := List.getElem?_eq_getElem hi
    obtain ⟨y, e1, e2⟩ := f2.get' hdi
    rw [hx] at e1
    cases e1
    refine turn i _ own2 ρ2 hdi ii ls2 σ' H' x s2 sr2 e2 _ fun ls3 own3 H3 ρ3 σ3 l3 s3 sr3 q => ?_
    exact q ls3 σ3 H3 s3 sr3 _ ⟨fun _ _ _ _ _ l s r q => ⟨_, _, _, (l2.trans l3).trans l, s, r, q⟩, fun _ _ _ _ _ l s r q => k.rt _ _ _ _ _ (l1.trans ((l2.trans l3).trans l)) s r q, fun _ _ _ _ _ l s r q => k.nx _ _ _ _ _ (l1.trans ((l2.trans l3).trans l)) s r q, fun _ _ _ _ _ l s r q => ⟨_, _, _, (l2.trans l3).trans l, s, r, q⟩⟩
  · rintro σ' H' ⟨ls2, own2, ρ2, l2, s2, sr2, ii⟩
    exact k.nx _ _ _ _ _ (l1.trans l2) s2 sr2 (fin _ _ ii)
/-- for x in a tuple -/
theorem W1.forT (I : Nat → List Cell → Ro → Prop) (hc : X.calm = true) (hp : PassesOwn (model X.prog X.w) X.A X.env X.xe)
    (h : E X F iter (fun o r => ∃ ds, r = .d (.tup ds) ∧ I 0 o ρ ∧ (∀ i d o' ρ', ds[i]? = some d → I i o' ρ' → Tg X F tg (.d d) (fun o2 ρ2 => W X F body { nx := I (i + 1), rt := P.rt, bk := P.nx, ct := I (i + 1) } o2 ρ2) o' ρ') ∧ ∀ o' ρ', I ds.length o' ρ' → P.nx o' ρ') own ρ)
    (hs : ∀ x, foldedSetIterable iter X.env x = pure x := by intro _; rfl) : W1 X F (.For tg iter body [] pos) P own ρ := by
  constructor
  intro ls σ H s0 sr De k
  refine (ps_for hp hc (pi_tup pe_we) pg_w pss_ws hs).to ?_
  refine h ls σ H s0 sr _ fun ls1 own1 H1 r v l1 s1 rr ⟨ds, er, i0, turn, fin⟩ => ?_
  subst er
  obtain ⟨p, xs, rfl, hq, hr⟩ := tup_rr rr
  refine ⟨p, rfl, ⟨xs, Same.seqT (msk_same _ _) hq⟩, ?_⟩
  refine for_tup (xs := xs) (Pv X F ls1 own1 H1 I) ⟨ls1, own1, ρ, Le.refl, s1, sr.up l1.pre l1.same, i0⟩ (fun i σ' H' _ ⟨_, _, _, l, _⟩ => Same.seqT (msk_same _ _) (Same.seqT l.same hq)) ?_ ?_
  · rintro i x σ' H' hx ⟨ls2, own2, ρ2, l2, s2, sr2, ii⟩
    have hi : i < ds.length := by rw [hr.length]; exact (List.getElem?_eq_some_iff.mp hx).1
    have hdi : ds[i]? = some ds[i] := List.getElem?_eq_getElem hi
    obtain ⟨y, e1, e2⟩ := hr.get hdi
    rw [hx] at e1
    cases e1
    refine turn i _ own2 ρ2 hdi ii ls2 σ' H' x s2 sr2 (Rep.mono l2.same e2) _ fun ls3 own3 H3 ρ3 σ3 l3 s3 sr3 q => ?_
    exact q ls3 σ3 H3 s3 sr3 _ ⟨fun _ _ _ _ _ l s r q => ⟨_, _, _, (l2.trans l3).trans l, s, r, q⟩, fun _ _ _ _ _ l s r q => k.rt _ _ _ _ _ (l1.trans ((l2.trans l3).trans l)) s r q, fun _ _ _ _ _ l s r q => k.nx _ _ _ _ _ (l1.trans ((l2.trans l3).trans l)) s r q, fun _ _ _ _ _ l s r q => ⟨_, _, _, (l2.trans l3).trans l, s, r, q⟩⟩
  · rintro σ' H' ⟨ls2, own2, ρ2, l2, s2, sr2, ii⟩
    rw [← hr.length] at ii
    exact k.nx _ _ _ _ _ (l1.trans l2) s2 sr2 (fin _ _ ii)
/-- for x in range(n) -/
theorem W1.forR {a : Expr} {p0 p1 : Pos} (I : Nat → List Cell → Ro → Prop) (hm : X.mg "range" = none) (hc : X.calm = true) (hp : PassesOwn (model X.prog X.w) X.A X.env X.xe)
    (h : E X F a (fun o r => ∃ m : Int, r = .d (.int m) ∧ (-(2 ^ 62) ≤ m ∧ m < 2 ^ 62) ∧ I 0 o ρ ∧ (∀ i o' ρ', i < m.toNat → I i o' ρ' → Tg X F tg (.d (.int (i : Int))) (fun o2 ρ2 => W X F body { nx := I (i + 1), rt := P.rt, bk := P.nx, ct := I (i + 1) } o2 ρ2) o' ρ') ∧ ∀ o' ρ', I m.toNat o' ρ' → P.nx o' ρ') own ρ)
    (hg : Gl X "range" := by rfl) (hst : starEach [a] X.env = [(false, eval a X.env)] := by rfl) (hs : ∀ x, foldedSetIterable (.Call (.Name "range" p0) [a] [] p1) X.env x = pure x := by intro _; rfl) : W1 X F (.For tg (.Call (.Name "range" p0) [a] [] p1) body [] pos) P own ρ := by
  constructor
  intro ls σ H s0 sr De k
  refine (ps_for hp hc (pi_range1 hg hm (pa_cons pe_we pa_nil hst) hst) pg_w pss_ws hs).to ?_
  refine h ls σ H s0 sr _ fun ls1 own1 H1 r v l1 s1 rr ⟨m, er, hb, i0, turn, fin⟩ => ?_
  subst er
  cases rr_int rr
  refine ⟨m, rfl, hb.1, hb.2, ?_⟩
  refine for_range (lo := 0) (n := m.toNat) (Pv X F ls1 own1 H1 I) ⟨ls1, own1, ρ, Le.refl, s1, sr.up l1.pre l1.same, i0⟩ ?_ ?_
  · rintro i σ' H' hi ⟨ls2, own2, ρ2, l2, s2, sr2, ii⟩
    rw [Int.zero_add]
    refine turn i own2 ρ2 hi ii ls2 σ' H' _ s2 sr2 ir_int _ fun ls3 own3 H3 ρ3 σ3 l3 s3 sr3 q => ?_
    exact q ls3 σ3 H3 s3 sr3 _ ⟨fun _ _ _ _ _ l s r q => ⟨_, _, _, (l2.trans l3).trans l, s, r, q⟩, fun _ _ _ _ _ l s r q => k.rt _ _ _ _ _ (l1.trans ((l2.trans l3).trans l)) s r q, fun _ _ _ _ _ l s r q => k.nx _ _ _ _ _ (l1.trans ((l2.trans l3).trans l)) s r q, fun _ _ _ _ _ l s r q => ⟨_, _, _, (l2.trans l3).trans l, s, r, q⟩⟩
  · rintro σ' H' ⟨ls2, own2, ρ2, l2, s2, sr2, ii⟩
    exact k.nx _ _ _ _ _ (l1.trans l2) s2 sr2 (fin _ _ ii)
/-- while -/
theorem W1.while {c : Expr} (I : List Cell → Ro → Prop) (μ : List Cell → Ro → Nat) (hp : PassesOwn (model X.prog X.w) X.A X.env X.xe) (h0 : I own ρ)
    (turn : ∀ o r, I o r → T X F c (fun o2 k => if k = true then W X F body { nx := fun o3 r3 => I o3 r3 ∧ μ o3 r3 < μ o r, rt := P.rt, bk := P.nx, ct := fun o3 r3 => I o3 r3 ∧ μ o3 r3 < μ o r } o2 r else P.nx o2 r) o r) : W1 X F (.While c body [] pos) P own ρ := by
  constructor
  intro ls σ H s0 sr De k
  refine (ps_while hp pt_wt pss_ws).to ?_
  refine ⟨fun m σ' H' => ∃ ls' own' ρ', Le F ls own H ls' own' H' ∧ St0 X.K F ls' own' H' ∧ SRep X.K ls' (F.g ls' own' H') ρ' σ' ∧ I own' ρ' ∧ m = μ own' ρ', ⟨_, ls, own, ρ, Le.refl, s0, sr, h0, rfl⟩, ?_⟩
  rintro m σ' H' ⟨ls1, own1, ρ1, l1, s1, sr1, i1, rfl⟩
  refine turn own1 ρ1 i1 ls1 σ' H' s1 sr1 _ fun ls2 own2 H2 b l2 s2 q => ?_
  cases b with
  | false => exact iteF (k.nx _ _ _ _ _ (l1.trans l2) s2 (sr1.up l2.pre l2.same) q)
  | true =>
    refine iteT ⟨fun σ3 H3 => ∃ ls' own' ρ', Le F ls own H ls' own' H3 ∧ St0 X.K F ls' own' H3 ∧ SRep X.K ls' (F.g ls' own' H3) ρ' σ3 ∧ I own' ρ' ∧ μ own' ρ' < μ own1 ρ1, fun σ3 H3 ⟨a, b, c, d, e, f, g, i⟩ => ⟨_, i, a, b, c, d, e, f, g, rfl⟩, ?_⟩
    exact (show W X F body _ own2 ρ1 from q) ls2 σ' H2 s2 (sr1.up l2.pre l2.same) _ ⟨fun _ _ _ _ _ l s r q => ⟨_, _, _, (l1.trans l2).trans l, s, r, q.1, q.2⟩, fun _ _ _ _ _ l s r q => k.rt _ _ _ _ _ ((l1.trans l2).trans l) s r q, fun _ _ _ _ _ l s r q => k.nx _ _ _ _ _ ((l1.trans l2).trans l) s r q, fun _ _ _ _ _ l s r q => ⟨_, _, _, (l1.trans l2).trans l, s, r, q.1, q.2⟩⟩
end
end DL

/-! ### operators of classes of the text, at the library's level -/
namespace DL.Own
open PySem PySem.W PySem.Calls PyProof.Rows
section
variable {prog : Program} {w : World} {A : Around} {E : Value → Shared → Prop} {s : Shared} {K : Frag} {x C L f : Addr} {h₀ : Heap} {m : Str → Option Value} {od : Option Obj} {dx : Addr} {i : Int} {t : Tok}
/-- what a built-in says of an instance: it does not know it -/
def Decl (prog : Program) (w : World) (B : Builtin) (i : Int) (t : Tok) (x : Addr) (C dx : Addr) : Prop := ∀ (A : Around) (s : Shared) (Q : Fin → Shared → Prop) (E : Value → Shared → Prop), s.heap.get? x = some (instObj C dx) → Q (.done (.ret .notImplemented)) s → wpAny (model prog w) A (B ⟨[.int i t, .ref x], []⟩) Q E s
theorem decl_bin {name : String} {fn : Int → Int → Sem Fin} : Decl prog w (Builtin.Int.intBinary name fn false) i t x C dx := by
  intro A s Q E ho h
  unfold Builtin.Int.intBinary
  refine wpAny_bind (m := slotArgs name 1 _) (wpAny_pure ?_)
  refine wpAny_bind (m := Builtin.Int.intOfSelf _) (wpAny_pure ?_)
  refine wpAny_bind (m := asInt? _) (wpAny_bind (wpAny_load ho (wpAny_pure ?_)))
  refine wpAny_bind (wpAny_rule (wpAny_pure h))
theorem decl_add : Decl prog w Builtin.«int.__add__» i t x C dx := decl_bin
theorem decl_sub : Decl prog w Builtin.«int.__sub__» i t x C dx := decl_bin
theorem decl_mul : Decl prog w Builtin.«int.__mul__» i t x C dx := decl_bin
theorem decl_eq : Decl prog w Builtin.«int.__eq__» i t x C dx := decl_bin
/-- an int's operator over an instance declines -/
theorem int_declines {nm idl : String} {B : Builtin} {Q : Option Value → Shared → Prop} (ho : s.heap.get? x = some (instObj C dx)) (slot : Slot "int" (PySem.dunder nm) idl) (entry : entryFor table idl = some B) (args : argsOk idl ⟨[.int i t, .ref x], []⟩) (g : Decl prog w B i t x C dx) (h : Q none s) :
    wpAny (model prog w) A (tryMethod (.int i t) (PySem.dunder nm) (.ref x)) Q E s := by
  refine wpAny_tryMethod_declines (typeIs_int s i t) slot ?_
  refine wpAny_call (codeAny_call_builtin slot.plain entry (slot.check _ _ _ _ _ _ _ _ (typeIs_int s i t) args ?_))
  exact g _ _ _ _ ho ⟨rfl, h⟩
set_option maxHeartbeats 2000000 in
theorem rbin_K {op : Operator} {idl : String} {B : Builtin} {g0 : Addr} {Q : Value → Shared → Prop} (F : Fr h₀ L s.heap m) (X₀ : K.In h₀) (I : InstAt s.heap x (instObj C dx) C od) (hc : selfFirst K C = true)
    (h0 : findIn K (.ref C) (PySem.dunder op.info.2) = some (some (.ref g0))) (hs : findIn K (.ref C) (dunderR op.info.2) = some (some (.ref f))) (hf : isFn K (.ref f) = true)
    (hfill : fillsNumberSlot (.type "int") op.info.2 = pure true) (slot : Slot "int" (PySem.dunder op.info.2) idl) (entry : entryFor table idl = some B) (args : argsOk idl ⟨[.int i t, .ref x], []⟩) (dc : Decl prog w B i t x C dx)
    (hsub : subIn K (.ref C) (.type "int") = some false)
    (h : wpAny (model prog w) A (call (.ref f) [.ref x, .int i t]) (PySem.W.CmpBack Q) E s) : wpAny (model prog w) A (binaryOp op (.int i t) (.ref x)) Q E s := by
  have X := X₀.keeps F.keep
  obtain ⟨cd, rest, hcd, hm⟩ := ksp_first hc
  rcases hi : op.info with ⟨sym, nm'⟩
  rw [hi] at h0 hs hfill slot
  dsimp only at h0 hs hfill slot
  have one := ksp_try X I hs hf h
  have two : ∀ {Q' : Option Value → Shared → Prop}, Q' none s → wpAny (model prog w) A (tryMethod (.int i t) (PySem.dunder nm') (.ref x)) Q' E s := fun q => int_declines I.at_ slot entry args dc q
  obtain ⟨hh, g, d, tt, os⟩ := s
  have L1 : Looks (model prog w) hh (typeOf (.ref x)) (.ref C) := I.type
  have L2 : Looks (model prog w) hh (typeOf (.int i t)) (.type "int") := Looks.of_pure rfl
  have L3 : Looks (model prog w) hh (fillsNumberSlot (.ref C) nm') true := fills_K X hcd hm h0
  have L4 : Looks (model prog w) hh (fillsNumberSlot (.type "int") nm') true := Looks.of_pure hfill
  have L5 : Looks (model prog w) hh (isSubtype (.ref C) (.type "int")) false := looks_subIn X hsub
  have L7 : Looks (model prog w) hh (numberSlotInPython (.type "int") nm') false := Looks.of_pure rfl
  have hne : (Value.type "int" == Value.ref C) = false := Bool.eq_false_iff.mpr fun q => by cases beq_iff_eq.mp q
  simp only [binaryOp, hi]
  refine wpAny_holding (wpAny_bind ?_)
  unfold binaryOp1
  refine wpAny_bind (L2.at (wpAny_bind (L1.at (wpAny_bind (L4.at ?_)))))
  simp only [hne, Bool.false_eq_true, if_false]
  ksp_lk
  refine two ?_
  ksp_lk
  refine wpAny_mono one (fun r s' hr' => ?_) fun _ _ e => e
  obtain ⟨v, rfl, hq⟩ := hr'
  ksp_lk
  exact hq
set_option maxHeartbeats 2000000 in
/-- int == instance: the instance's own == -/
theorem req_K {Q : Value → Shared → Prop} (hu : A.units < cLine) (F : Fr h₀ L s.heap m) (X₀ : K.In h₀) (I : InstAt s.heap x (instObj C dx) C od) (hs : findIn K (.ref C) "__eq__" = some (some (.ref f))) (hf : isFn K (.ref f) = true) (hsub : subIn K (.ref C) (.type "int") = some false)
    (h : wpAny (model prog w) A (call (.ref f) [.ref x, .int i t]) (PySem.W.CmpBack Q) E s) : wpAny (model prog w) A (richCompare .Eq (.int i t) (.ref x)) Q E s := by
  have X := X₀.keeps F.keep
  have one : wpAny (model prog w) A (tryCompare (.ref x) "__eq__" (.int i t)) (fun r s' => ∃ v, r = some v ∧ Q v s') E s := by
    unfold tryCompare
    refine wpAny_bind (ifBound_K X I hs hf (wpAny_mono h (fun v s' hv => ?_) fun _ _ e => e))
    cases v <;> first | exact hv.elim | exact wpAny_pure ⟨_, rfl, hv⟩
  have two : ∀ {Q' : Option Value → Shared → Prop}, Q' none s → wpAny (model prog w) A (tryCompare (.int i t) "__eq__" (.ref x)) Q' E s := fun {Q'} q => by
    unfold tryCompare
    refine wpAny_bind (wpAny_callSpecialIfBound?_slot (typeIs_int s i t) PySem.F.slot_int_eq (wpAny_call (codeAny_call_builtin PySem.F.slot_int_eq.plain PySem.F.entry_int_eq (PySem.F.slot_int_eq.check _ _ _ _ _ _ _ _ (typeIs_int s i t) (PySem.F.args_int_eq_2 _ _) ?_))))
    exact decl_eq _ _ _ _ I.at_ (wpAny_pure q)
  unfold richCompare
  refine wpAny_holding (wpAny_bind (wpAny_cRoomFor hu ?_))
  have eo : oneThing? .Eq (.int i t) (.ref x) = none := by rfl
  rw [eo]
  have hne : (Value.type "int" != Value.ref C) = true := by
    rw [bne, Bool.not_eq_true']
    exact Bool.eq_false_iff.mpr fun q => by cases beq_iff_eq.mp q
  have L1 : Looks (model prog w) s.heap (typeOf (.ref x)) (.ref C) := I.type
  have L2 : Looks (model prog w) s.heap (typeOf (.int i t)) (.type "int") := Looks.of_pure rfl
  refine wpAny_bind (L2.here (wpAny_bind (L1.here ?_)))
  rw [hne]
  simp only [if_true]
  refine wpAny_bind ((looks_subIn X hsub).here ?_)
  simp only [Bool.false_eq_true, if_false, Bool.not_false, if_true]
  refine wpAny_bind (two ?_)
  refine wpAny_bind (wpAny_mono one (fun r s' z => ?_) fun _ _ e => e)
  obtain ⟨v, rfl, hq⟩ := z
  exact wpAny_pure hq
set_option maxHeartbeats 2000000 in
/-- instance != anything, by object's own __ne__: not the instance's own == -/
theorem rne_K {b tb : Value} {Q : Value → Shared → Prop} (hu : A.units + 1 < cLine) (F : Fr h₀ L s.heap m) (X₀ : K.In h₀) (I : InstAt s.heap x (instObj C dx) C od) (hb : Looks (model prog w) s.heap (typeOf b) tb) (hn : notFirst K C tb = true)
    (hs : findIn K (.ref C) "__eq__" = some (some (.ref f))) (hne : findIn K (.ref C) "__ne__" = some (some (.builtin "object.__ne__"))) (hf : isFn K (.ref f) = true) (hobj : subIn K (.ref C) (.type "object") = some true)
    (h : wpAny (model prog w) A.in1 (call (.ref f) [.ref x, b]) (fun v s' => ∃ r, v = .bool r ∧ Q (.bool (!r)) s') E s) : wpAny (model prog w) A (richCompare .NotEq (.ref x) b) Q E s := by
  have X := X₀.keeps F.keep
  have L1 : Looks (model prog w) s.heap (typeOf (.ref x)) (.ref C) := I.type
  have body : ∀ {Q' : Fin → Shared → Prop} {E' : Value → Shared → Prop}, wpAny (model prog w) A.in1 (call (.ref f) [.ref x, b]) (fun v s' => ∃ r, v = .bool r ∧ Q' (.done (.ret (.bool (!r)))) s') E' s → wpAny (model prog w) A.in1 (Builtin.«object.__ne__» ⟨[.ref x, b], []⟩) Q' E' s := fun {Q' E'} h => by
    unfold Builtin.«object.__ne__»
    refine wpAny_bind (m := slotArgs "__ne__" 1 _) (wpAny_pure ?_)
    refine wpAny_bind (wpAny_cRoomFor hu ?_)
    refine wpAny_bind (ifBound_K X I hs hf (wpAny_mono h (fun v s' hv => ?_) fun _ _ e => e))
    obtain ⟨r, rfl, hq⟩ := hv
    refine wpAny_bind (m := truthy (.bool r)) (wpAny_truthy_bool ?_)
    exact wpAny_pure hq
  have one : wpAny (model prog w) A (tryCompare (.ref x) "__ne__" b) (fun r s' => ∃ v, r = some v ∧ Q v s') E s := by
    unfold tryCompare
    refine wpAny_bind ?_
    simp only [callSpecialIfBound?, bindSpecialIfBound?]
    refine wpAny_holding (wpAny_bind (wpAny_bind (wpAny_bind (L1.here ((looks_findIn X hne).here ?_)))))
    have hbind : bindSpecial (.builtin "object.__ne__") (.ref x) = pure (.builtin "object.__ne__", [.ref x]) := by with_unfolding_all rfl
    simp only [hbind]
    have fin : wpAny (model prog w) A (call (.builtin "object.__ne__") ([.ref x] ++ [b]) >>= fun v => pure (some v)) (fun r s' => wpAny (model prog w) A (match r with | some .notImplemented | none => pure none | some v => pure (some v)) (fun r s' => ∃ v, r = some v ∧ Q v s') E s') E s := by
      refine wpAny_bind (wpAny_call (codeAny_call_builtin (by with_unfolding_all decide +kernel) PySem.F.cmpEntry_ne (check_slot PySem.F.cmpKind_ne PySem.F.cmpSplit_ne (L1.andThen (looks_subIn X hobj)) (PySem.F.cmpArgs_ne _ _) ?_)))
      refine body (wpAny_mono h (fun v s' hv => ?_) fun _ _ e => e)
      obtain ⟨r, rfl, hq⟩ := hv
      exact ⟨r, rfl, wpAny_pure (wpAny_pure ⟨_, rfl, hq⟩)⟩
    refine wpAny_bind (wpAny_askSetting (wpAny_ite ?_))
    split
    · exact wpAny_bind (wpAny_pure (wpAny_pure (by exact fin)))
    · exact wpAny_tryCatch (wpAny_bind (wpAny_pure (wpAny_pure (by exact fin))))
  unfold richCompare
  simp only [oneThing_ref]
  refine wpAny_holding (wpAny_bind (wpAny_cRoomFor (Nat.lt_of_succ_lt hu) ?_))
  refine wpAny_bind (L1.here (wpAny_bind (hb.here ?_)))
  split
  · rename_i q
    have e : subIn K tb (.ref C) = some false := by
      rcases Bool.or_eq_true_iff.mp hn with e | e
      · rw [beq_iff_eq.mp e] at q; simp at q
      · exact beq_iff_eq.mp e
    refine wpAny_bind ((looks_subIn X e).here ?_)
    simp only [Bool.false_eq_true, if_false]
    refine wpAny_bind (wpAny_mono one (fun r s' z => ?_) fun _ _ e => e)
    obtain ⟨v, rfl, hq⟩ := z
    exact wpAny_pure hq
  · refine wpAny_bind (wpAny_pure ?_)
    simp only [Bool.false_eq_true, if_false]
    refine wpAny_bind (wpAny_mono one (fun r s' z => ?_) fun _ _ e => e)
    obtain ⟨v, rfl, hq⟩ := z
    exact wpAny_pure hq
/-- abs(instance) -/
theorem abs_K {Q : Value → Shared → Prop} (F : Fr h₀ L s.heap m) (X₀ : K.In h₀) (I : InstAt s.heap x (instObj C dx) C od) (hs : findIn K (.ref C) "__abs__" = some (some (.ref f))) (hf : isFn K (.ref f) = true)
    (h : wpAny (model prog w) A.in1 (call (.ref f) [.ref x]) Q E s) : wpAny (model prog w) A (call (.builtin "abs") [.ref x]) Q E s := by
  refine Calls.call_function_entry kind_abs plain_abs entry_abs (args_abs _) ?_
  unfold Builtin.«abs»
  refine wpAny_bind (m := oneArg "abs" _) (wpAny_pure ?_)
  refine wpAny_bind (m := callSpecial? (.ref x) (Str.ofString "__abs__")) (special_fn (X₀.keeps F.keep) I hs (beq_iff_eq.mp hf) (wpAny_mono h (fun r s' hr => ?_) fun _ _ y => y))
  exact wpAny_pure ⟨_, rfl, hr⟩
end
end DL.Own

namespace DL
open PySem PySem.Spec PyProof.Rows L2
/-! ### operators of classes of the text, over data -/
section
variable {X : Cx} {F : Fm} {own : List Cell} {ρ : Ro} {Q : QE} {QT : QT} {k : Nat} {f C : Addr} {fd : FuncData} {ps : List Str} {pre : List D → Prop} {post : List D → D → Prop} {i : Int}
/-- a def runs below the body -/
theorem run_at {A : Around} {pins : List (Addr × Obj)} {σ : L2.St} {H : Hp} {s : Shared} {Qv : VK} {us : List Value} {vs : List V} {sp : Sp} (G : FnOk X.prog X.w X.K X.mg X.base CX0 k f fd ps sp) (hfr : A.frames = X.A.frames) (hr : Room k A) (hb : Binds X.K fd ps []) (I : Inv X pins σ H s) (r : Vals vs us) (h : sp vs H Qv E0) :
    wpAny (model X.prog X.w) A (call (.ref f) us) (EP X pins σ Qv) X.xe s := by
  have e0 : Env0 X.prog X.w X.K X.mg X.base A X.stack s H := by
    have e := I.env0
    exact ⟨by rw [hfr]; exact e.frames, e.mod, e.bs, e.bsz, e.funs, e.frf, e.hok, e.bare⟩
  have hl : us.length = ps.length := by rw [← r.length]; exact G.len _ _ _ _ h
  refine wpAny_call (codeAny_mono (G.run A X.stack s H ⟨us, []⟩ us vs Qv E0 hr e0 (by
    have := hb s us I.kIn (by simpa using hl)
    simpa using this) r h) fun r s' hq => ?_)
  cases r with
  | error e => exact hq.elim
  | ok fl =>
    cases fl with
    | ret w => exact I.after hq
    | next => exact False.elim hq
    | brk => exact False.elim hq
    | cont => exact False.elim hq
theorem ep_back {pins : List (Addr × Obj)} {σ : L2.St} {Qv : VK} {u : Value} {s : Shared} (h : EP X pins σ Qv u s) : PySem.W.CmpBack (EP X pins σ Qv) u s := by
  obtain ⟨v, H', I, r, q⟩ := h
  cases v with
  | non => cases r; exact ⟨.non, H', I, rfl, q⟩
  | bl b => cases r; exact ⟨.bl b, H', I, rfl, q⟩
  | int i => obtain ⟨t, rfl⟩ := r; exact ⟨.int i, H', I, ⟨t, rfl⟩, q⟩
  | str i => obtain ⟨t, rfl⟩ := r; exact ⟨.str i, H', I, ⟨t, rfl⟩, q⟩
  | byt i => obtain ⟨t, rfl⟩ := r; exact ⟨.byt i, H', I, ⟨t, rfl⟩, q⟩
  | flt i => obtain ⟨t, rfl⟩ := r; exact ⟨.flt i, H', I, ⟨t, rfl⟩, q⟩
  | ref i => cases r; exact ⟨.ref i, H', I, rfl, q⟩
  | ty i => cases r; exact ⟨.ty i, H', I, rfl, q⟩
theorem ins_at {ls own H v ns ds} (st : St0 X.K F ls own H) (rv : RRep X.K ls (F.g ls own H) (.d (.ins C ns ds)) v) : ∃ a dx fs, v = .ref a ∧ H a = some (.ins C dx fs) := by
  obtain ⟨a, dx, xs, rfl, e, _⟩ := ins_rr rv
  exact ⟨a, dx, _, rfl, msk_same _ _ _ _ e⟩
variable {ns ns' : List Str} {ds ds' : List D} {op : Operator}
/-- x op y, both instances of the class -/
theorem O2.ownB (hc : PySem.W.selfFirst X.K C = true) (hs : PySem.W.findIn X.K (.ref C) (PySem.dunder op.info.2) = some (some (.ref f))) (hf : PySem.W.isFn X.K (.ref f) = true) (G : FnOk X.prog X.w X.K X.mg X.base CX0 k f fd ps (spF X.K pre post)) (hr : Room k X.A) (hb : Binds X.K fd ps [])
    (hp : pre [.ins C ns ds, .ins C ns' ds']) (h : ∀ d, post [.ins C ns ds, .ins C ns' ds'] d → Q own (.d d)) : O2 X F (.bin op) (.d (.ins C ns ds)) (.d (.ins C ns' ds')) Q own := by
  constructor
  intro ls H u v st rx ry Qv kk pins σ s uu vv I ru rv
  obtain ⟨a, dx, fs, rfl, ha⟩ := ins_at st rx
  obtain ⟨b, dy, gs, rfl, hb'⟩ := ins_at st ry
  cases ru; cases rv
  obtain ⟨mA, J, _⟩ := ins_get I.hok ha
  obtain ⟨mB, J', _⟩ := ins_get I.hok hb'
  obtain ⟨od, J, _⟩ := J.look
  obtain ⟨od', J', _⟩ := J'.look
  obtain ⟨m, hF⟩ := I.fr
  refine PySem.W.binop_K hF I.ok.mod.kin J J'.type hc hs hf ?_
  exact thn (run_at (vs := [.ref a, .ref b]) G rfl hr hb I (.cons rfl (.cons rfl .nil)) (spF_use st (Reps.cons rx (Reps.cons ry Reps.nil)) hp kk h _)) fun u s q => ep_back q
/-- x op n, an instance and an int -/
theorem O2.ownI {fo ro rc : Option Value} (hc : PySem.W.selfFirst X.K C = true) (hs : PySem.W.findIn X.K (.ref C) (PySem.dunder op.info.2) = some (some (.ref f))) (hf : PySem.W.isFn X.K (.ref f) = true) (hR : PySem.W.findIn X.K (.ref C) (dunderR op.info.2) = some rc) (hP : rc = none ∨ ∃ g : Addr, rc = some (.ref g))
    (h1 : PySem.W.findIn X.K (.type "int") (PySem.dunder op.info.2) = some fo) (h2 : PySem.W.findIn X.K (.type "int") (dunderR op.info.2) = some ro) (hsub : PySem.W.subIn X.K (.type "int") (.ref C) = some false)
    (G : FnOk X.prog X.w X.K X.mg X.base CX0 k f fd ps (spF X.K pre post)) (hr : Room k X.A) (hb : Binds X.K fd ps [])
    (hp : pre [.ins C ns ds, .int i]) (h : ∀ d, post [.ins C ns ds, .int i] d → Q own (.d d)) : O2 X F (.bin op) (.d (.ins C ns ds)) (.d (.int i)) Q own := by
  constructor
  intro ls H u v st rx ry Qv kk pins σ s uu vv I ru rv
  obtain ⟨a, dx, fs, rfl, ha⟩ := ins_at st rx
  cases rr_int ry
  cases ru
  obtain ⟨t, rfl⟩ := rv
  obtain ⟨mA, J, _⟩ := ins_get I.hok ha
  obtain ⟨od, J, _⟩ := J.look
  obtain ⟨m, hF⟩ := I.fr
  refine PySem.W.ksp_binT hF I.ok.mod.kin J rfl hc hs hf hR hP h1 h2 hsub ?_
  exact thn (run_at (vs := [.ref a, .int i]) G rfl hr hb I (.cons rfl (.cons ⟨_, rfl⟩ .nil)) (spF_use st (Reps.cons rx (Reps.cons ry Reps.nil)) hp kk h _)) fun u s q => ep_back q
/-- n op x, an int and an instance -/
theorem O2.ownR {idl : String} {B : Builtin} {g0 : Addr} (hc : PySem.W.selfFirst X.K C = true) (h0 : PySem.W.findIn X.K (.ref C) (PySem.dunder op.info.2) = some (some (.ref g0))) (hs : PySem.W.findIn X.K (.ref C) (dunderR op.info.2) = some (some (.ref f))) (hf : PySem.W.isFn X.K (.ref f) = true)
    (hfill : fillsNumberSlot (.type "int") op.info.2 = pure true) (slot : Slot "int" (PySem.dunder op.info.2) idl) (entry : entryFor table idl = some B) (args : ∀ i t x, argsOk idl ⟨[.int i t, .ref x], []⟩) (dc : ∀ i t x dx, Own.Decl X.prog X.w B i t x C dx)
    (hsub : PySem.W.subIn X.K (.ref C) (.type "int") = some false)
    (G : FnOk X.prog X.w X.K X.mg X.base CX0 k f fd ps (spF X.K pre post)) (hr : Room k X.A) (hb : Binds X.K fd ps [])
    (hp : pre [.ins C ns ds, .int i]) (h : ∀ d, post [.ins C ns ds, .int i] d → Q own (.d d)) : O2 X F (.bin op) (.d (.int i)) (.d (.ins C ns ds)) Q own := by
  constructor
  intro ls H u v st rx ry Qv kk pins σ s uu vv I ru rv
  obtain ⟨a, dx, fs, rfl, ha⟩ := ins_at st ry
  cases rr_int rx
  cases rv
  obtain ⟨t, rfl⟩ := ru
  obtain ⟨mA, J, _⟩ := ins_get I.hok ha
  obtain ⟨od, J, _⟩ := J.look
  obtain ⟨m, hF⟩ := I.fr
  refine Own.rbin_K hF I.ok.mod.kin J hc h0 hs hf hfill slot entry (args _ _ _) (dc _ _ _ _) hsub ?_
  exact thn (run_at (vs := [.ref a, .int i]) G rfl hr hb I (.cons rfl (.cons ⟨_, rfl⟩ .nil)) (spF_use st (Reps.cons ry (Reps.cons rx Reps.nil)) hp kk h _)) fun u s q => ep_back q
/-- -x -/
theorem O1.ownN (hs : PySem.W.findIn X.K (.ref C) "__neg__" = some (some (.ref f))) (hf : PySem.W.isFn X.K (.ref f) = true) (G : FnOk X.prog X.w X.K X.mg X.base CX0 k f fd ps (spF X.K pre post)) (hr : Room k X.A) (hb : Binds X.K fd ps [])
    (hp : pre [.ins C ns ds]) (h : ∀ d, post [.ins C ns ds] d → Q own (.d d)) : O1 X F .USub (.d (.ins C ns ds)) Q own := by
  constructor
  intro ls H u st rx Qv kk pins σ s uu I ru
  obtain ⟨a, dx, fs, rfl, ha⟩ := ins_at st rx
  cases ru
  obtain ⟨mA, J, _⟩ := ins_get I.hok ha
  obtain ⟨od, J, _⟩ := J.look
  obtain ⟨m, hF⟩ := I.fr
  refine PySem.W.ksp_neg hF I.ok.mod.kin J hs hf ?_
  exact run_at (vs := [.ref a]) G rfl hr hb I (.cons rfl .nil) (spF_use st (Reps.cons rx Reps.nil) hp kk h _)
/-- abs(x) -/
theorem Cl.absO (hs : PySem.W.findIn X.K (.ref C) "__abs__" = some (some (.ref f))) (hf : PySem.W.isFn X.K (.ref f) = true) (G : FnOk X.prog X.w X.K X.mg X.base CX0 k f fd ps (spF X.K pre post)) (hr : Room (k + 1) X.A) (hb : Binds X.K fd ps [])
    (hp : pre [.ins C ns ds]) (h : ∀ d, post [.ins C ns ds] d → Q own (.d d)) : Cl X F (.builtin "abs") [.d (.ins C ns ds)] Q own := by
  constructor
  intro ls H vs st rr Qv kk pins σ s us I ru
  obtain ⟨v, rfl, rx⟩ := rrs1 rr
  obtain ⟨a, dx, fs, rfl, ha⟩ := ins_at st rx
  obtain ⟨u, rfl, ru1⟩ := Vals.one ru
  obtain rfl : u = Value.ref a := ru1
  obtain ⟨mA, J, _⟩ := ins_get I.hok ha
  obtain ⟨od, J, _⟩ := J.look
  obtain ⟨m, hF⟩ := I.fr
  refine Own.abs_K hF I.ok.mod.kin J hs hf ?_
  exact run_at (vs := [.ref a]) G rfl hr.in1 hb I (.cons rfl .nil) (spF_use st (Reps.cons rx Reps.nil) hp kk h _)
/-- a truth by __bool__ -/
theorem Tr.ownT (hs : PySem.W.findIn X.K (.ref C) "__bool__" = some (some (.ref f))) (hf : PySem.W.isFn X.K (.ref f) = true) (G : FnOk X.prog X.w X.K X.mg X.base CX0 k f fd ps (spF X.K pre post)) (hr : Room k X.A) (hb : Binds X.K fd ps [])
    (hp : pre [.ins C ns ds]) (h : ∀ d, post [.ins C ns ds] d → ∃ b, d = .bl b ∧ QT own b) : Tr X F (.d (.ins C ns ds)) QT own := by
  constructor
  intro ls H u st rx Qb kk pins σ s uu I ru
  obtain ⟨a, dx, fs, rfl, ha⟩ := ins_at st rx
  cases ru
  obtain ⟨mA, J, _⟩ := ins_get I.hok ha
  obtain ⟨od, J, _⟩ := J.look
  obtain ⟨m, hF⟩ := I.fr
  refine PySem.W.truthy_K hF I.ok.mod.kin J hs hf ?_
  refine thn (run_at (vs := [.ref a]) G rfl hr hb I (.cons rfl .nil) (spF_use (Q := fun o r => ∃ b, r = .d (.bl b) ∧ QT o b) st (Reps.cons rx Reps.nil) hp (Qv := fun v H' => ∃ b, v = .bl b ∧ Qb b H') (fun ls' own' H' r v l s1 rr ⟨b, e, q⟩ => by subst e; exact ⟨b, rr_bl rr, kk _ _ _ b l s1 q⟩) (fun d hd => by obtain ⟨b, rfl, q⟩ := h d hd; exact ⟨b, rfl, q⟩) _)) fun u s q => ?_
  obtain ⟨v, H', I', r, b, rfl, q⟩ := q
  cases r
  exact ⟨H', I', q⟩
/-- bool(x) of such -/
theorem mro_nothing : True := trivial
/-- x == y by __eq__ -/
theorem O2.ownEq {y : D} {tb : Value} (hty : ∀ (ls : List Addr) (own : List Cell) (H : Hp) (v : V) (pins : List (Addr × Obj)) (σ : L2.St) (s : Shared) (u : Value), RRep X.K ls (F.g ls own H) (.d y) v → Inv X pins σ H s → RelV v u → PySem.W.Looks (model X.prog X.w) s.heap (typeOf u) tb) (hn : PySem.W.notFirst X.K C tb = true)
    (hs : PySem.W.findIn X.K (.ref C) "__eq__" = some (some (.ref f))) (hf : PySem.W.isFn X.K (.ref f) = true) (G : FnOk X.prog X.w X.K X.mg X.base CX0 k f fd ps (spF X.K pre post)) (hr : Room k X.A) (hb : Binds X.K fd ps [])
    (hp : pre [.ins C ns ds, y]) (h : ∀ d, post [.ins C ns ds, y] d → Q own (.d d)) : O2 X F (.cmp .Eq) (.d (.ins C ns ds)) (.d y) Q own := by
  constructor
  intro ls H u v st rx ry Qv kk pins σ s uu vv I ru rv
  obtain ⟨a, dx, fs, rfl, ha⟩ := ins_at st rx
  cases ru
  obtain ⟨mA, J, _⟩ := ins_get I.hok ha
  obtain ⟨od, J, _⟩ := J.look
  obtain ⟨m, hF⟩ := I.fr
  show wpAny (model X.prog X.w) X.A (richCompare .Eq (.ref a) vv) (EP X pins σ Qv) X.xe s
  refine PySem.W.cmp_K (op := .Eq) (tb := tb) hr.units0 hF I.ok.mod.kin J (hty _ _ _ _ _ _ _ _ ry I rv) hn hs hf ?_
  exact thn (run_at (vs := [.ref a, v]) G rfl hr hb I (.cons rfl (.cons rv .nil)) (spF_use st (Reps.cons rx (Reps.cons ry Reps.nil)) hp kk h _)) fun u s q => ep_back q
/-- n == x -/
theorem O2.ownEqR (hs : PySem.W.findIn X.K (.ref C) "__eq__" = some (some (.ref f))) (hf : PySem.W.isFn X.K (.ref f) = true) (hsub : PySem.W.subIn X.K (.ref C) (.type "int") = some false) (G : FnOk X.prog X.w X.K X.mg X.base CX0 k f fd ps (spF X.K pre post)) (hr : Room k X.A) (hb : Binds X.K fd ps [])
    (hp : pre [.ins C ns ds, .int i]) (h : ∀ d, post [.ins C ns ds, .int i] d → Q own (.d d)) : O2 X F (.cmp .Eq) (.d (.int i)) (.d (.ins C ns ds)) Q own := by
  constructor
  intro ls H u v st rx ry Qv kk pins σ s uu vv I ru rv
  obtain ⟨a, dx, fs, rfl, ha⟩ := ins_at st ry
  cases rr_int rx
  cases rv
  obtain ⟨t, rfl⟩ := ru
  obtain ⟨mA, J, _⟩ := ins_get I.hok ha
  obtain ⟨od, J, _⟩ := J.look
  obtain ⟨m, hF⟩ := I.fr
  show wpAny (model X.prog X.w) X.A (richCompare .Eq (.int i t) (.ref a)) (EP X pins σ Qv) X.xe s
  refine Own.req_K hr.units0 hF I.ok.mod.kin J hs hf hsub ?_
  exact thn (run_at (vs := [.ref a, .int i]) G rfl hr hb I (.cons rfl (.cons ⟨_, rfl⟩ .nil)) (spF_use st (Reps.cons ry (Reps.cons rx Reps.nil)) hp kk h _)) fun u s q => ep_back q
/-- x != y, where __eq__ stands and no __ne__ -/
theorem O2.ownNe {y : D} {tb : Value} (hty : ∀ (ls : List Addr) (own : List Cell) (H : Hp) (v : V) (pins : List (Addr × Obj)) (σ : L2.St) (s : Shared) (u : Value), RRep X.K ls (F.g ls own H) (.d y) v → Inv X pins σ H s → RelV v u → PySem.W.Looks (model X.prog X.w) s.heap (typeOf u) tb) (hn : PySem.W.notFirst X.K C tb = true)
    (hs : PySem.W.findIn X.K (.ref C) "__eq__" = some (some (.ref f))) (hne : PySem.W.findIn X.K (.ref C) "__ne__" = some (some (.builtin "object.__ne__"))) (hf : PySem.W.isFn X.K (.ref f) = true) (hobj : PySem.W.subIn X.K (.ref C) (.type "object") = some true)
    (G : FnOk X.prog X.w X.K X.mg X.base CX0 k f fd ps (spF X.K pre post)) (hr : Room (k + 1) X.A) (hb : Binds X.K fd ps [])
    (hp : pre [.ins C ns ds, y]) (h : ∀ d, post [.ins C ns ds, y] d → ∃ b, d = .bl b ∧ Q own (.d (.bl (!b)))) : O2 X F (.cmp .NotEq) (.d (.ins C ns ds)) (.d y) Q own := by
  constructor
  intro ls H u v st rx ry Qv kk pins σ s uu vv I ru rv
  obtain ⟨a, dx, fs, rfl, ha⟩ := ins_at st rx
  cases ru
  obtain ⟨mA, J, _⟩ := ins_get I.hok ha
  obtain ⟨od, J, _⟩ := J.look
  obtain ⟨m, hF⟩ := I.fr
  show wpAny (model X.prog X.w) X.A (richCompare .NotEq (.ref a) vv) (EP X pins σ Qv) X.xe s
  refine Own.rne_K (tb := tb) (hu_of hr) hF I.ok.mod.kin J (hty _ _ _ _ _ _ _ _ ry I rv) hn hs hne hf hobj ?_
  refine thn (run_at (vs := [.ref a, v]) G rfl hr.in1 hb I (.cons rfl (.cons rv .nil)) (spF_use (Q := fun o r => ∃ b, r = .d (.bl b) ∧ Q o (.d (.bl (!b)))) st (Reps.cons rx (Reps.cons ry Reps.nil)) hp (Qv := fun v H' => ∃ b, v = .bl b ∧ Qv (.bl (!b)) H') (fun ls' own' H' r v l s1 rr ⟨b, e, q⟩ => by subst e; exact ⟨b, rr_bl rr, kk _ _ _ (.d (.bl (!b))) _ l s1 ir_bl q⟩) (fun d hd => by obtain ⟨b, rfl, q⟩ := h d hd; exact ⟨b, rfl, q⟩) _)) fun u s q => ?_
  obtain ⟨v, H', I', r, b, rfl, q⟩ := q
  cases r
  exact ⟨b, rfl, .bl (!b), H', I', rfl, q⟩
theorem ty_int (ls : List Addr) (own : List Cell) (H : Hp) (v : V) (pins : List (Addr × Obj)) (σ : L2.St) (s : Shared) (u : Value) (h : RRep X.K ls (F.g ls own H) (.d (.int i)) v) (_ : Inv X pins σ H s) (r : RelV v u) : PySem.W.Looks (model X.prog X.w) s.heap (typeOf u) (.type "int") := by
  cases rr_int h
  obtain ⟨t, rfl⟩ := r
  exact PySem.W.Looks.of_pure rfl
theorem ty_ins (ls : List Addr) (own : List Cell) (H : Hp) (v : V) (pins : List (Addr × Obj)) (σ : L2.St) (s : Shared) (u : Value) (h : RRep X.K ls (F.g ls own H) (.d (.ins C ns ds)) v) (I : Inv X pins σ H s) (r : RelV v u) : PySem.W.Looks (model X.prog X.w) s.heap (typeOf u) (.ref C) := by
  obtain ⟨a, dx, xs, rfl, e, _⟩ := ins_rr h
  cases r
  obtain ⟨mA, J, _⟩ := ins_get I.hok (msk_same _ _ _ _ e)
  obtain ⟨od, J, _⟩ := J.look
  exact J.type
/-! ### isinstance -/
/-- what isinstance must know of a class of the text -/
structure IsC (K : PySem.W.Frag) (C : Addr) : Prop where
  cl : Cls K C
  ha : PySem.W.findIn K (.ref C) "__class__" = some (some (.builtin "object.__class__"))
  hn : PySem.W.specialIn K (.builtin "object.__class__") "__get__" = some (some (.builtin "getset_descriptor.__get__"))
  htk : PySem.W.takesIn K (.builtin "object.__class__") = some true
  hm : PySem.W.mroIn K C (.type "object") = some true
theorem Cl.isiInt {c : D} {u : Value} {b : Bool} (hc : ∀ G v, Rep X.K G c v → ClsV v u) (hk : PySem.W.kitOne X.K (.type "int") u = some b) (h : Q own (.d (.bl b))) : Cl X F (.builtin "isinstance") [.d (.int i), .d c] Q own := by
  constructor
  intro ls H vs st rr Qv k
  obtain ⟨v, w, rfl, rv, rw'⟩ := rrs2 rr
  cases rr_int rv
  exact call_isi.to ⟨_, w, _, u, b, rfl, hc _ _ rw', .base (.int i), hk, k _ _ _ (.d (.bl b)) _ Le.refl st ir_bl h⟩
theorem Cl.isiIns {c : D} {u : Value} {b : Bool} (T : IsC X.K C) (hc : ∀ G v, Rep X.K G c v → ClsV v u) (hk : PySem.W.kitOne X.K (.ref C) u = some b) (h : Q own (.d (.bl b))) : Cl X F (.builtin "isinstance") [.d (.ins C ns ds), .d c] Q own := by
  constructor
  intro ls H vs st rr Qv k
  obtain ⟨v, w, rfl, rv, rw'⟩ := rrs2 rr
  obtain ⟨a, dx, fs, rfl, ha⟩ := ins_at st rv
  exact call_isi.to ⟨_, w, _, u, b, rfl, hc _ _ rw', .base (.ins ha T.cl T.ha T.hn T.htk T.hm), hk, k _ _ _ (.d (.bl b)) _ Le.refl st ir_bl h⟩
theorem Cl.isiBl {c : D} {u : Value} {x b : Bool} (hc : ∀ G v, Rep X.K G c v → ClsV v u) (hk : PySem.W.kitOne X.K (.type "bool") u = some b) (h : Q own (.d (.bl b))) : Cl X F (.builtin "isinstance") [.d (.bl x), .d c] Q own := by
  constructor
  intro ls H vs st rr Qv k
  obtain ⟨v, w, rfl, rv, rw'⟩ := rrs2 rr
  cases rr_bl rv
  exact call_isi.to ⟨_, w, _, u, b, rfl, hc _ _ rw', .base (.bl x), hk, k _ _ _ (.d (.bl b)) _ Le.refl st ir_bl h⟩
theorem clsv_ty {K G v} {n : String} (h : Rep K G (.ty n) v) : ClsV v (.type n) := by
  simp only [Rep] at h; subst h; exact .ty n
theorem clsv_ref {K G v} {a : Addr} (h : Rep K G (.ref a) v) : ClsV v (.ref a) := by
  simp only [Rep] at h; subst h; exact .own a
/-- x.bit_length() -/
theorem E.bits {o : Expr} {apos pos : Pos} (h : E X F o (fun o1 r => ∃ i, r = .d (.int i) ∧ Q o1 (.d (.int (Builtin.Int.intBits i : Nat)))) own ρ) (hbase : attributeBase o "bit_length" X.env (eval o X.env) = eval o X.env := by rfl) (hline : (apos.endLine == pos.line) = true := by rfl) : E X F (.Call (.Attribute o "bit_length" apos) [] [] pos) Q own ρ := by
  constructor
  intro ls σ H st sr Qv k
  refine (pe_bits pe_we hbase hline).to ?_
  refine h ls σ H st sr _ fun ls1 own1 H1 x u l1 s1 rx ⟨i, ex, q⟩ => ?_
  subst ex
  cases rr_int rx
  exact ⟨i, rfl, k _ _ _ (.d (.int _)) _ l1 s1 ir_int q⟩
end
end DL

namespace DL
open PySem PySem.Spec PyProof.Rows L2

/-! ### exceptions -/
/-- what the context takes of exceptions, over data -/
def Tk (X : Cx) (F : Fm) (XC : Value → List Cell → Ro → Prop) : Prop := ∃ W : WX, Takes X W ∧ ∀ ls own H ρ σ cls, St0 X.K F ls own H → SRep X.K ls (F.g ls own H) ρ σ → XC cls own ρ → W cls none σ H
/-- a def that changes nothing that stood and may raise -/
def spX (K : PySem.W.Frag) (pre : List D → Prop) (post : List D → D → Prop) (exc : List D → Value → Prop) : Sp := fun vs H Q E => ∃ (S : List Addr) (ds : List D), (∀ b ∈ S, H b ≠ none) ∧ Reps K (msk S H) ds vs ∧ pre ds ∧
  (∀ v H' d, Same H H' → Rep K (msk S H') d v → post ds d → Q v H') ∧ ∀ cls H', Same H H' → exc ds cls → E cls none H'
def spIX (K : PySem.W.Frag) (C : Addr) (ns : List Str) (pre : List D → Prop) (post : List D → List D → Prop) (exc : List D → Value → Prop) : Sp := fun vs H Q E => ∃ (S : List Addr) (x dx : Addr) (ws : List V) (ds : List D), vs = .ref x :: ws ∧ x ∉ S ∧ (∀ b ∈ S, H b ≠ none) ∧
  H x = some (.ins C dx []) ∧ Reps K (msk (S ++ [x]) H) ds ws ∧ pre ds ∧
  (∀ H' dx' xs fs, (∀ b o, b ≠ x → H b = some o → H' b = some o) → H' x = some (.ins C dx' (ns.zip xs)) → ns.length = fs.length → Reps K (msk (S ++ [x]) H') fs xs → post ds fs → Q .non H') ∧
  ∀ cls H', (∀ b o, b ≠ x → H b = some o → H' b = some o) → exc ds cls → E cls none H'
section
variable {P : Program} {w : World} {K : PySem.W.Frag} {mg : Str → Option Value} {base : Heap}
/-- the body's context in a def that may raise -/
abbrev cxX (P : Program) (w : World) (K : PySem.W.Frag) (mg : Str → Option Value) (base : Heap) (N : List Str) (qual : Str) (sc : Scope) (f : Addr) (cdv : Value) (A : Around) (outer : List Env) (s : Shared) (H : Hp) (E : XK) : Cx := cxOf (L2.CX P w) P w K mg base N qual sc f cdv A outer s H E
theorem ok_X {x qual : Str} {st : Stmt} {f : Addr} {fd : FuncData} {N ps : List Str} {k : Nat} (F : Fun K x qual st f fd) (S : FnScope N ps (defScope st)) {pre : List D → Prop} {post : List D → D → Prop} {exc : List D → Value → Prop} (hlen : ∀ ds, pre ds → ds.length = ps.length)
    (body : ∀ (cdv : Value) (A : Around) (outer : List Env) (s : Shared) (H : Hp) (E : XK) (Fr : Fm) (ds : List D), Room k (A.deeper (envOfC qual (defScope st) s.heap.objs.size f cdv)) → Fr.mu = [] → pre ds → Tk (cxX P w K mg base N qual (defScope st) f cdv A outer s H E) Fr (fun cls _ _ => exc ds cls) →
      W (cxX P w K mg base N qual (defScope st) f cdv A outer s H E) Fr (defBody st) { nx := fun _ _ => post ds .non, rt := fun _ r => ∃ d, r = .d d ∧ post ds d } [] (ent N.length (ds.map R.d))) :
    FnOk P w K mg base (L2.CX P w) (k + 1) f fd ps (spX K pre post exc) := by
  refine F.okX S (fun vs H Q E h => ?_) (fun cdv A outer s H vs Q E hr h => ?_)
  · obtain ⟨_, ds, _, h2, h3, _⟩ := h
    rw [← h2.length]; exact hlen ds h3
  · obtain ⟨S0, ds, h1, h2, h3, kk, ke⟩ := h
    refine ⟨_, pss_ws, ?_⟩
    have st0 : St0 K (Fm.of H S0 []) [] [] H := ⟨rfl, List.nodup_nil, fun l hl => absurd hl (by simp), fun k l c hl => absurd hl (by simp), fun b o _ e => e, fun b h => h, h1, fun l hl => absurd hl (by simp), List.nil_prefix, fun _ _ e => by cases e⟩
    have eg : Fm.g (Fm.of H S0 []) [] [] H = msk S0 H := by show msk (S0 ++ live [] []) H = _; simp [live]
    have sr : SRep K [] (Fm.g (Fm.of H S0 []) [] [] H) (ent N.length (ds.map R.d)) (L2.start N vs) := start_rep N (by rw [eg]; exact RReps.ofD h2)
    have sm : ∀ {ls' : List Addr} {own' : List Cell} {H' : Hp}, St0 K (Fm.of H S0 []) ls' own' H' → Same H H' := fun s' b o e => s'.keep b o (by simp) e
    have fin : ∀ {ls' : List Addr} {own' : List Cell} {H' : Hp} {d : D} {v : V}, St0 K (Fm.of H S0 []) ls' own' H' → Rep K (Fm.g (Fm.of H S0 []) ls' own' H') d v → post ds d → Q v H' := fun s' r q =>
      kk _ _ _ (sm s') (Rep.mono (msk_le fun b hb => List.mem_append_left _ hb) r) q
    have tk : Tk (cxX P w K mg base N qual (defScope st) f cdv A outer s H E) (Fm.of H S0 []) (fun cls _ _ => exc ds cls) :=
      ⟨fun cls d _ H => E cls d H, takes_of rfl rfl rfl rfl, fun ls own H' ρ σ cls s' _ q => ke cls H' (sm s') q⟩
    refine body cdv A outer s H E (Fm.of H S0 []) ds hr rfl h3 tk [] (L2.start N vs) H st0 sr _ ⟨?_, ?_, ?_, ?_⟩
    · intro ls' own' H' ρ σ _ s' _ q
      exact fin (d := .non) s' (by simp only [Rep]) q
    · rintro ls' own' H' r v _ s' rv ⟨d, rfl, q⟩
      exact fin s' rv q
    · intro _ _ _ _ _ _ _ _ q; exact q
    · intro _ _ _ _ _ _ _ _ q; exact q
theorem ok_IX {x qual : Str} {st : Stmt} {f C : Addr} {fd : FuncData} {N ps ns : List Str} {k : Nat} (F : Fun K x qual st f fd ∨ ∃ dvs kws, FunD K x qual (defArgs st) (defBody st) (defScope st) dvs kws f fd) (S : FnScope N ps (defScope st)) {pre : List D → Prop} {post : List D → List D → Prop} {exc : List D → Value → Prop} (hlen : ∀ ds, pre ds → ds.length + 1 = ps.length)
    (body : ∀ (cdv : Value) (A : Around) (outer : List Env) (s : Shared) (H : Hp) (E : XK) (Fr : Fm) (ds : List D), Room k (A.deeper (envOfC qual (defScope st) s.heap.objs.size f cdv)) → pre ds → Tk (cxX P w K mg base N qual (defScope st) f cdv A outer s H E) Fr (fun cls _ _ => exc ds cls) →
      W (cxX P w K mg base N qual (defScope st) f cdv A outer s H E) Fr (defBody st) { nx := fun own _ => ∃ fs : List D, own[0]? = some (.ins C ns (fs.map R.d)) ∧ post ds fs, rt := fun own r => r = .d .non ∧ ∃ fs : List D, own[0]? = some (.ins C ns (fs.map R.d)) ∧ post ds fs } [.ins C [] []] (ent N.length (.c 0 :: ds.map R.d))) :
    FnOk P w K mg base (L2.CX P w) (k + 1) f fd ps (spIX K C ns pre post exc) := by
  have len : ∀ vs H Q E, spIX K C ns pre post exc vs H Q E → vs.length = ps.length := fun vs H Q E h => by
    obtain ⟨_, l, dx, ws, ds, rfl, _, _, _, h7, h8, _⟩ := h
    rw [List.length_cons, ← h7.length]; exact hlen ds h8
  have hb : ∀ (cdv : Value) (A : Around) (outer : List Env) (s : Shared) (H : Hp) (vs : List V) (Q : VK) (E : XK), Room k (A.deeper (envOfC qual (defScope st) s.heap.objs.size f cdv)) → spIX K C ns pre post exc vs H Q E →
      ∃ t, PSs (cxX P w K mg base N qual (defScope st) f cdv A outer s H E) (defBody st) t ∧ t { nx := fun _ H' => Q .non H', rt := Q } (L2.start N vs) H := by
    intro cdv A outer s H vs Q E hr h
    obtain ⟨S0, l, dx, ws, ds, rfl, hl, h1, h4, h7, h8, kk, ke⟩ := h
    refine ⟨_, pss_ws, ?_⟩
    have st0 : St0 K (Fm.of H S0 [l]) [l] [.ins C [] []] H := by
      refine ⟨rfl, by simp, fun b hb => ?_, fun j b c e1 e2 => ?_, fun b o _ e => e, fun b h => h, h1, fun b hb => by rw [List.mem_singleton.mp hb, h4]; exact fun z => (by cases z), List.nil_prefix, fun _ _ e => by cases e⟩
      · rw [List.mem_singleton.mp hb]; exact ⟨hl, .inr (by simp)⟩
      · cases j with
        | zero =>
          simp at e1 e2
          subst e1; subst e2
          exact ⟨dx, [], h4, rfl, .nil⟩
        | succ j => simp at e1
    have sr : SRep K [l] (Fm.g (Fm.of H S0 [l]) [l] [.ins C [] []] H) (ent N.length (.c 0 :: ds.map R.d)) (L2.start N (.ref l :: ws)) := start_rep N (.cons ⟨l, rfl, rfl⟩ (RReps.ofD h7))
    have fin : ∀ {ls' : List Addr} {own' : List Cell} {H' : Hp}, Le (Fm.of H S0 [l]) [l] [.ins C [] []] H ls' own' H' → St0 K (Fm.of H S0 [l]) ls' own' H' → (∃ fs : List D, own'[0]? = some (.ins C ns (fs.map R.d)) ∧ post ds fs) → Q .non H' := by
      rintro ls' own' H' le s' ⟨fs, ec, q⟩
      have e0 : ls'[0]? = some l := pre_get le.pre rfl
      obtain ⟨dx', xs', g1, g2, g3⟩ := s'.at_ 0 l _ e0 ec
      refine kk _ _ _ _ (fun b o hb e => s'.keep b o (by simpa using hb) e) g1 (by rw [g2, List.length_map]) (Reps.mono (msk_le fun b hb => ?_) (RReps.toD g3)) q
      rcases List.mem_append.mp hb with h | h
      · exact List.mem_append_left _ h
      · rw [List.mem_singleton.mp h]; exact List.mem_append_right _ (live_get e0 ec fun z => by cases z)
    have tk : Tk (cxX P w K mg base N qual (defScope st) f cdv A outer s H E) (Fm.of H S0 [l]) (fun cls _ _ => exc ds cls) :=
      ⟨fun cls d _ H => E cls d H, takes_of rfl rfl rfl rfl, fun ls own H' ρ σ cls s' _ q => ke cls H' (fun b o hb e => s'.keep b o (by simpa using hb) e) q⟩
    refine body cdv A outer s H E (Fm.of H S0 [l]) ds hr h8 tk [l] (L2.start N (.ref l :: ws)) H st0 sr _ ⟨?_, ?_, ?_, ?_⟩
    · intro ls' own' H' ρ σ le s' _ q
      exact fin le s' q
    · rintro ls' own' H' r v le s' rv ⟨rfl, q⟩
      have e := rr_non rv
      subst e
      exact fin le s' q
    · intro _ _ _ _ _ _ _ _ q; exact q
    · intro _ _ _ _ _ _ _ _ q; exact q
  rcases F with F | ⟨dvs, kws, F⟩
  · exact F.okX S len hb
  · exact F.ok S len fun cdv A outer s H vs Q E hr h => hb cdv A outer s H vs Q E hr h
end
section
variable {X : Cx} {F : Fm} {own : List Cell} {ρ : Ro} {Q : QE} {P : Po} {k : Nat} {f C : Addr} {fd : FuncData} {ps : List Str} {pre : List D → Prop} {post : List D → D → Prop} {exc : List D → Value → Prop} {x m : Str} {p pos apos : Pos} {e o : Expr} {es : List Expr} {XC : Value → List Cell → Ro → Prop}
/-- raise X('..'), X a class of the text without own __init__ -/
theorem W1.raise {B newId initId : String} {bmB : List Value} {msg : Str} {j : Nat} {p2 : Pos} (hcalm : X.calm = true) (tk : Tk X F XC) (FB : ExcBaseFacts B newId initId bmB) (q : PySem.W.excIn X.K C bmB newId = true) (gC : X.mg x = some (.ref C)) (kC : PySem.W.keepIn X.K (.ref C) = true) (r : Raises X (.ref C)) (h : XC (.ref C) own ρ) (hg : Gl X x := by rfl)
    (hdb : (x == ("__debug__" : Str)) = false := by decide) : W1 X F (.Raise (some (.Call (.Name x p) [.Constant (.str msg) j p2] [] apos)) none pos) P own ρ := by
  constructor
  intro ls σ H s0 sr De k
  obtain ⟨W0, t, hw⟩ := tk
  exact (ps_raise hcalm t (pmk_own FB q gC kC r hg hdb)).to (hw _ _ _ _ _ _ s0 sr h)
theorem spX_use {ls own H Qv} {ds : List D} {vs : List V} {σ : L2.St} {W0 : WX} (st : St0 X.K F ls own H) (sr : SRep X.K ls (F.g ls own H) ρ σ) (rr : Reps X.K (F.g ls own H) ds vs) (hp : pre ds) (k : KV' X F ls own H Q Qv) (q : ∀ d, post ds d → Q own (.d d))
    (hw : ∀ ls own H ρ σ cls, St0 X.K F ls own H → SRep X.K ls (F.g ls own H) ρ σ → XC cls own ρ → W0 cls none σ H) (qe : ∀ cls, exc ds cls → XC cls own ρ) : spX X.K pre post exc vs H Qv (WE W0 σ) :=
  ⟨F.S0 ++ live ls own, ds, st.hid, rr, hp, fun v H' d sm rd pd => k ls own H' (.d d) v (Le.grow sm) (st.grow sm) rd (q d pd), fun cls H' sm he => hw ls own H' ρ σ cls (st.grow sm) (sr.up List.prefix_rfl (msk_mono sm)) (qe cls he)⟩
/-- o.m(e, ..), the method may raise -/
theorem E.methX {pl : Sem Bool} (tk : Tk X F XC) (c : Cls X.K C) (hm : Meth X.K C m f) (G : FnOk X.prog X.w X.K X.mg X.base (L2.CX X.prog X.w) k f fd ps (spX X.K pre post exc)) (hr : Room k X.A) (hb : Binds X.K fd ps [])
    (h : E X F o (fun o1 r => ∃ ns ds0, r = .d (.ins C ns ds0) ∧ (ns.zip ds0).lookup m = none ∧ A X F (e :: es) (fun o2 rs => ∃ ds : List D, rs = ds.map R.d ∧ pre (.ins C ns ds0 :: ds) ∧ (∀ d, post (.ins C ns ds0 :: ds) d → Q o2 (.d d)) ∧ ∀ cls, exc (.ins C ns ds0 :: ds) cls → XC cls o2 ρ) o1 ρ) own ρ)
    (hst : starEach (e :: es) X.env = (false, eval e X.env) :: starEach es X.env := by rfl) (hpl : (backTo pos (starEach es X.env)).any (·.1) = false := by rfl)
    (ht : eval (.Call (.Attribute o m apos) (e :: es) [] pos) X.env = (do
      let ov ← eval o X.env
      standAt apos.atName
      let (f, first) ← holding [ov] (getMethod ov m pl)
      callWith pos f first (backTo pos (starEach (e :: es) X.env)) (backToKw pos (keywordEach [] X.env))) := by rfl) : E X F (.Call (.Attribute o m apos) (e :: es) [] pos) Q own ρ := by
  constructor
  intro ls σ H st sr Qv kk pins s I
  obtain ⟨W0, t, hw⟩ := tk
  refine PySem.W.methodCall_KW (pl := pl) (thn (h ls σ H st sr (fun x H1 => ∃ a dx fs, x = .ref a ∧ H1 a = some (.ins C dx fs) ∧ fs.lookup m = none ∧ wa X (e :: es) σ H1 fun vs H2 => spX X.K pre post exc (x :: vs) H2 Qv (WE W0 σ)) (fun ls1 own1 H1 r u l1 s1 rr ⟨ns, ds0, er, hn, ha⟩ => ?_) pins s I) fun u s1 ⟨x, H1, I1, rx, a, dx, fs, ex, ea, l, q⟩ => ?_) ht
  · subst er
    obtain ⟨a, dx, fs, rfl, g1, g2⟩ := meth_core s1 rr hn
    refine ⟨a, dx, fs, rfl, g1, g2, ?_⟩
    refine ha ls1 σ H1 s1 (sr.up l1.pre l1.same) _ fun ls2 own2 H2 rs vs l2 s2 rr2 ⟨ds, er, hp, q, qe⟩ => ?_
    subst er
    exact spX_use s2 (sr.up (l1.trans l2).pre (l1.trans l2).same) (Reps.cons (rr.up l2.pre l2.same) (RReps.toD rr2)) hp (fun _ _ _ _ _ l => kk _ _ _ _ _ ((l1.trans l2).trans l)) q hw qe
  · subst ex
    obtain rfl : u = Value.ref a := rx
    refine getmeth_ok I1 ea c hm l ?_
    refine PySem.W.callWith_K (first := [.ref a]) (h₀ := X.base) I.ok.mod.kin hm.kp (thn (q pos pins s1 I1) fun us s2 ⟨vs, H2, I2, r, q2⟩ => ⟨I2.kIn, ?_⟩) hst hpl
    exact run_fnS (us := .ref a :: us) (vs := .ref a :: vs) (E := WE W0) G hr hb (passAt t σ) I2 (.cons rfl r) q2
/-- C(e, ..), the __init__ may raise -/
theorem run_makeS {pins : List (Addr × Obj)} {σ : L2.St} {H : Hp} {s : Shared} {Qv : VK} {us dus : List Value} {vs dvs : List V} {sp : Sp} {E : XK} (M : Mk X.K C f) (G : FnOk X.prog X.w X.K X.mg X.base (L2.CX X.prog X.w) k f fd ps sp) (hr : Room (k + 1) X.A) (hb : Binds X.K fd ps dus) (hd : Vals dvs dus)
    (hx : PassesAt (L2.CX X.prog X.w) X σ E) (I : Inv X pins σ H s) (r : Vals vs us)
    (h : ∀ x dx, H x = none → H dx = none → dx ≠ x → sp (.ref x :: (vs ++ dvs)) (upd (upd H dx (.own x)) x (.ins C dx [])) (fun v H2 => v = .non ∧ Qv (.ref x) H2) E) :
    wpAny (model X.prog X.w) X.A (call (.ref C) us) (EP X pins σ Qv) X.xe s := by
  have hq := h (s.heap.objs.size + 1) s.heap.objs.size (I.hok.fresh (Nat.le_succ _)) (I.hok.fresh (Nat.le_refl _)) (Nat.ne_of_lt (Nat.lt_succ_self _))
  have I2 := Inv.made (C := C) I
  have r2 : Vals (V.ref (s.heap.objs.size + 1) :: (vs ++ dvs)) (Value.ref (s.heap.objs.size + 1) :: (us ++ dus)) := .cons rfl (r.append hd)
  have hl : (Value.ref (s.heap.objs.size + 1) :: us ++ dus).length = ps.length := by
    have e := r2.length
    rw [G.len _ _ _ _ hq] at e
    exact e.symm
  refine wpAny_call (make_map (f := f) I.kIn M.makes M.init (beq_iff_eq.mp M.fn) (codeAny_mono (G.run _ X.stack _ _ ⟨Value.ref (s.heap.objs.size + 1) :: us, []⟩ (Value.ref (s.heap.objs.size + 1) :: (us ++ dus)) _ _ E (hr.make C us [])
    (I2.env0.make C us []) (hb _ (Value.ref (s.heap.objs.size + 1) :: us) I2.kIn hl) r2 hq) fun r s' hq' => ?_))
  cases r with
  | error e => exact hx pins _ _ e s' I2 hq'
  | ok fl =>
    cases fl with
    | ret u =>
      obtain ⟨v, H', I3, rv, ev, q3⟩ := I2.after hq'
      subst ev
      exact ⟨rv, ⟨V.ref (s.heap.objs.size + 1), H', I3, rfl, q3⟩⟩
    | next => exact False.elim hq'
    | brk => exact False.elim hq'
    | cont => exact False.elim hq'
theorem E.makeX {ns : List Str} {postI : List D → List D → Prop} {dds : List D} {dvs : List V} {dus : List Value} (tk : Tk X F XC) (M : Mk X.K C f) (G : FnOk X.prog X.w X.K X.mg X.base (L2.CX X.prog X.w) k f fd ps (spIX X.K C ns pre postI exc)) (hr : Room (k + 1) X.A) (hm : X.mg x = some (.ref C)) (hb : Binds X.K fd ps dus) (hdv : Vals dvs dus) (hdd : ∀ G, Reps X.K G dds dvs)
    (h : A X F (e :: es) (fun o rs => ∃ ds : List D, rs = ds.map R.d ∧ pre (ds ++ dds) ∧ (∀ fs, postI (ds ++ dds) fs → Q o (.d (.ins C ns fs))) ∧ ∀ cls, exc (ds ++ dds) cls → XC cls o ρ) own ρ) (hg : Gl X x := by rfl) (hdb : (x == ("__debug__" : Str)) = false := by decide) (he : starEach (e :: es) X.env = (false, eval e X.env) :: starEach es X.env := by rfl)
    (hpl : (backTo pos (starEach es X.env)).any (·.1) = false := by rfl) : E X F (.Call (.Name x p) (e :: es) [] pos) Q own ρ := by
  constructor
  intro ls σ H st sr Qv kk pins s I
  obtain ⟨W0, t, hw⟩ := tk
  refine wpAny_Call_Name_kw (ld_glob I hg hm ?_ hdb)
  refine PySem.W.callWith_K (h₀ := X.base) I.ok.mod.kin M.kp (thn (h ls σ H st sr (fun vs H1 => ∀ a dx, H1 a = none → H1 dx = none → dx ≠ a → spIX X.K C ns pre postI exc (.ref a :: (vs ++ dvs)) (upd (upd H1 dx (.own a)) a (.ins C dx [])) (fun v H2 => v = .non ∧ Qv (.ref a) H2) (WE W0 σ)) (fun ls1 own1 H1 rs vs l1 s1 rr ⟨ds, er, hp, q, qe⟩ => ?_) pos pins s I) fun us s1 ⟨vs, H1, I1, r, q⟩ => ⟨I1.kIn, ?_⟩) he hpl
  · subst er
    intro a dx ha hdx hne
    have hid : a ∉ F.S0 ++ live ls1 own1 := fun z => s1.hid a z ha
    have sm0 : Same H1 (upd (upd H1 dx (.own a)) a (.ins C dx [])) := fun b o e => by rw [upd_ne (ne_of_none e ha), upd_ne (ne_of_none e hdx)]; exact e
    refine ⟨F.S0 ++ live ls1 own1, a, dx, _, ds ++ dds, rfl, hid, fun b hb z => ?_, upd_same, ?_, hp, fun H' dx' xs fs hm' a1 a2 a3 a4 => ⟨rfl, ?_⟩, fun cls H' hm' he => ?_⟩
    · have := s1.hid b hb
      cases q1 : H1 b with
      | none => exact this q1
      | some o => rw [sm0 b o q1] at z; cases z
    · refine Reps.append (Reps.mono (fun b o e => ?_) (RReps.toD rr)) (hdd _)
      have hb : b ≠ a := fun z => by
        subst z
        have := msk_same _ _ _ _ e
        rw [ha] at this; cases this
      have e : msk (F.S0 ++ live ls1 own1) H1 b = some o := e
      unfold msk at e ⊢
      split at e
      · cases e
      · rename_i hn
        rw [if_neg (by rw [List.mem_append, List.mem_singleton]; exact fun z => z.elim hn hb)]
        exact sm0 b o e
    · have sm : Same H1 H' := fun b o e => hm' b o (fun z => by subst z; rw [ha] at e; cases e) (sm0 b o e)
      refine kk ls1 own1 H' (.d (.ins C ns fs)) _ (l1.trans (Le.grow sm)) (s1.grow sm) ?_ (q fs a4)
      simp only [RRep, Rep]
      refine ⟨a, dx', xs, rfl, ?_, a2, Reps.mono (msk_le fun b hb => List.mem_append_left _ hb) a3⟩
      show msk (F.S0 ++ live ls1 own1) H' a = _
      rw [msk_out hid]
      exact a1
    · have sm : Same H1 H' := fun b o e => hm' b o (fun z => by subst z; rw [ha] at e; cases e) (sm0 b o e)
      exact hw ls1 own1 H' ρ σ cls (s1.grow sm) (sr.up l1.pre ((Le.grow sm (own := own1) (ls := ls1) (F := F)).same |> l1.same.trans)) (qe cls he)
  · exact run_makeS (E := WE W0 σ) M G hr hb hdv (passAt t σ) I1 r q
/-- try: .. except c as n: .. -/
theorem W1.tryAs {n : Str} {i : Nat} {c : Value} {body suite : List Stmt} {b₀ : Stmt} {np pos' : Pos} (XC : Value → List Cell → Ro → Prop) (hs : X.stack = X.env :: X.outer) (hf : X.env.frame = some X.env.locals) (hN : X.N.Nodup) (hi : X.N[i]? = some n) (hln : X.env.kindOf n = some .local) (hc : Names X x c) {Wout : WX} (tko : Takes X Wout)
    (hb : ∀ pn xe F', F'.H0 = F.H0 → F'.S0 = F.S0 → F'.mu = F.mu → PassesOwn (model X.prog X.w) X.A X.env xe → Tk (X.tr pn xe) F' XC → W (X.tr pn xe) F' body { P with nx := P.nx } own ρ)
    (hsu : ∀ a oe cls pn own' ρ', Zc cls none oe → (∃ vs, oe.data = .fields vs) → XC cls own' ρ' → PySem.W.exmOne X.K cls c = some true ∧ W (X.suite a ((a, oe) :: pn)) F (b₀ :: suite) { nx := fun o r => P.nx o (r.set i none), rt := P.rt, bk := fun o r => P.bk o (r.set i none), ct := fun o r => P.ct o (r.set i none) } own' (ρ'.set i (some (.d (.ref a))))) :
    W1 X F (.Try body [.ExceptHandler (some (.Name x np)) (some n) (b₀ :: suite) pos'] [] [] pos) P own ρ := by
  constructor
  intro ls σ H s0 sr De k
  refine (ps_try_as (tb := fun W D σ H => ∀ pn xe, Takes (X.tr pn xe) W → PassesOwn (model X.prog X.w) X.A X.env xe → ws (X.tr pn xe) body D σ H)
    (ts := fun a cls d D σ H => ∀ oe pn, Zc cls d oe → (∃ vs, oe.data = .fields vs) → ws (X.suite a ((a, oe) :: pn)) (b₀ :: suite) D σ H) hs hf hN hi hln hc tko
    (fun W pn xe tk po => ⟨fun pins s σ H D I h => h pn xe tk po pins s I⟩) (fun a oe cls d pn hz hv => ⟨fun pins s σ H D I h => h oe pn hz hv pins s I⟩)).to ?_
  intro pn xe tk po
  have st1 : St0 (X.tr pn xe).K { F with la := ls, ga := F.g ls own H } ls own H := { s0 with ap := List.prefix_rfl, as := Same.refl _ }
  have back : ∀ {ls' own' H'}, St0 X.K { F with la := ls, ga := F.g ls own H } ls' own' H' → St0 X.K F ls' own' H' ∧ Le F ls own H ls' own' H' := fun z =>
    ⟨{ z with ap := s0.ap.trans z.ap, as := s0.as.trans z.as }, ⟨z.ap, z.as⟩⟩
  refine hb pn xe { F with la := ls, ga := F.g ls own H } rfl rfl rfl po ⟨_, tk, fun ls' own' H' ρ' σ' cls z sz hx => ?_⟩ ls σ H st1 sr De ⟨fun ls' own' H' ρ' σ' _ z sz q => k.nx _ _ _ _ _ (back z).2 (back z).1 sz q, fun ls' own' H' r v _ z rv q => k.rt _ _ _ _ _ (back z).2 (back z).1 rv q, fun ls' own' H' ρ' σ' _ z sz q => k.bk _ _ _ _ _ (back z).2 (back z).1 sz q, fun ls' own' H' ρ' σ' _ z sz q => k.ct _ _ _ _ _ (back z).2 (back z).1 sz q⟩
  have zz := (back z).1
  have zl := (back z).2
  have noneS : ∀ {ls K G} {ρ : Ro} {σ : L2.St} (i : Nat), SRep K ls G ρ σ → SRep K ls G (ρ.set i none) (σ.set i none) := by
    intro ls K G ρ σ i h
    induction h generalizing i with
    | nil => exact .nil
    | cons a t ih => cases i with
      | zero => exact .cons True.intro t
      | succ i => exact .cons a (ih i)
  refine ⟨true, ?_, fun _ a ha oe pn' hz hv => ?_, fun z => by cases z⟩
  · have oe : Obj := ⟨cls, none, .fields #[], #[]⟩
    exact (hsu 0 ⟨cls, none, .fields #[], #[]⟩ cls [] own' ρ' ⟨rfl, rfl⟩ ⟨_, rfl⟩ hx).1
  · refine (hsu a oe cls pn' own' ρ' hz hv hx).2 ls' _ H' zz (SRep.set (by simp only [RRep, Rep]) i sz) _ ⟨fun ls2 own2 H2 ρ2 σ2 l z2 s2 q => k.nx _ _ _ _ _ (zl.trans l) z2 (noneS i s2) q, fun ls2 own2 H2 r v l z2 rv q => k.rt _ _ _ _ _ (zl.trans l) z2 rv q, fun ls2 own2 H2 ρ2 σ2 l z2 s2 q => k.bk _ _ _ _ _ (zl.trans l) z2 (noneS i s2) q, fun ls2 own2 H2 ρ2 σ2 l z2 s2 q => k.ct _ _ _ _ _ (zl.trans l) z2 (noneS i s2) q⟩
/-- isinstance(e, c) in the suite -/
theorem Cl.isiExc {a De' : Addr} {oe : Obj} {pn : List (Addr × Obj)} {c : D} {cv : Value} {b : Bool} (T : ExcC X.K De') (hz : Zc (.ref De') none oe) (hf : ∃ vs, oe.data = .fields vs) (hc : ∀ G v, Rep X.K G c v → ∀ u, RelV v u → u = cv) (hk : PySem.W.kitOne X.K (.ref De') cv = some b) (h : Q own (.d (.bl b))) :
    Cl (X.suite a ((a, oe) :: pn)) F (.builtin "isinstance") [.d (.ref a), .d c] Q own := by
  constructor
  intro ls H vs st rr Qv k
  obtain ⟨v, w, rfl, rv, rw'⟩ := rrs2 rr
  cases rr_ref rv
  exact (call_isE (X := X) (pn := pn) T hz hf).to ⟨w, cv, b, rfl, hc _ _ rw', hk, k _ _ _ (.d (.bl b)) _ Le.refl st ir_bl h⟩
theorem relv_ty {K G v} {n : String} (h : Rep K G (.ty n) v) (u : Value) (r : RelV v u) : u = .type n := by
  simp only [Rep] at h; subst h; exact r
theorem relv_ref {K G v} {a : Addr} (h : Rep K G (.ref a) v) (u : Value) (r : RelV v u) : u = .ref a := by
  simp only [Rep] at h; subst h; exact r
end
end DL

namespace DL.Own
open PySem PySem.W PySem.Calls PyProof.Rows
section
variable {prog : Program} {w : World} {A : Around} {E : Value → Shared → Prop} {s : Shared}
theorem boolnew {x : Value} {R : Result → Shared → Prop} (h : wpAny (model prog w) A.in1 (truthy x) (fun b s' => R (.ok (.ret (.bool b))) s') (fun e s' => R (.error e) s') s) :
    codeAny (model prog w) A (.call (.builtin "bool.__new__") ⟨[.type "bool", x], []⟩) R s := by
  refine codeAny_call_builtin F.called_bool.plain F.entry_bool_new (wpAny_of_eq (F.newCall_bool_1 x) ?_)
  obtain ⟨hp, g, d, tk, os⟩ := s
  have f1 := F.conv_sub_bool
  have k : ∀ {Q : Fin → Shared → Prop}, (∀ b s', R (.ok (.ret (.bool b))) s' → Q (.done (.ret (.bool b))) s') → wpAny (model prog w) A.in1 (truthy x) (fun b s' => Q (.done (.ret (.bool b))) s') (fun e s' => R (.error e) s') ⟨hp, g, d, tk, os⟩ := fun q => wpAny_mono h (fun b s' z => q b s' z) fun _ _ z => z
  repeat (any_goals (first | assumption | exact wpAny_bind (k fun b s' z => wpAny_pure z) | exact wpAny_bind (wpAny_mono h (fun b s' z => wpAny_pure z) fun _ _ z => z) | wp_step))
/-- bool(x), by x's truth -/
theorem boolc {x : Value} {Q : Value → Shared → Prop} (h : wpAny (model prog w) A.in1.in1 (truthy x) (fun b s' => Q (.bool b) s') E s) : wpAny (model prog w) A (call (.type "bool") [x]) Q E s := by
  have tc := F.called_bool
  obtain ⟨c, tl, hm⟩ := tc.mro
  have md := tc.made
  have sb := tc.sub
  refine wpAny_call (codeAny_of_tree ?_)
  show wpAny _ _ (callAny (.type "bool") ⟨[x], []⟩) _ _ _
  refine wpAny_pure (And.intro (Code.quiet_builtin _ (by decide +kernel)) ?_)
  refine codeAny_builtin F.entry_type_call ?_
  rw [Around.under_plain (weight_type_call_type "bool" [x] []) (units_type_call_type "bool" [x] [])]
  have n1 := tc.notType
  have n2 := tc.canCreate
  have f1 := F.typeCall_bool_1 x
  repeat (any_goals (first | assumption | wp_step))
  refine codeAny_mono (boolnew (R := fun r s1 => match r with
      | .ok (.ret v) => s1.TypeIs v "bool" ∧ Q v s1
      | .ok _ => False
      | .error e => E e s1) (wpAny_mono h (fun b s' z => ⟨rfl, z⟩) fun _ _ z => z)) fun r s1 hr => ?_
  cases r with
  | error e => exact hr
  | ok fl =>
    cases fl with
    | ret v =>
      obtain ⟨ht, hq⟩ := hr
      have li := tc.init.lookup
      have bi := tc.init.bind v
      repeat (any_goals (first | assumption | wp_step))
      have ok2 : argsOk "object.__init__" ⟨[v, x], []⟩ := F.args_object_init_2 v x
      have gi := object_init_meets (self := v) (rest := [x]) li md F.newNe_bool prog w A.in1 (wants (fun r s2 => r = .none ∧ Q v s2) E) s1 ⟨ht, rfl, hq⟩
      refine codeAny_mono (codeAny_call_builtin tc.init.plain F.entry_object_init (tc.init.check _ _ _ _ _ _ _ _ ht ok2 gi)) fun r2 s2 h2 => ?_
      cases r2 with
      | error e => exact h2
      | ok fl2 =>
        cases fl2 with
        | ret r =>
          obtain ⟨rfl, hq⟩ := h2
          repeat (any_goals (first | assumption | wp_step))
        | _ => exact h2.elim
    | _ => exact hr.elim
end
end DL.Own
namespace DL
open PySem PySem.Spec PyProof.Rows L2
section
variable {X : Cx} {F : Fm} {own : List Cell} {ρ : Ro} {Q : QE} {QT : QT} {P : Po} {st : Stmt} {sts rest : List Stmt}
/-- a middle state -/
theorem W.cut (M : List Cell → Ro → Prop) (h : W1 X F st { P with nx := M } own ρ) (k : ∀ o r, M o r → W X F rest P o r) : W X F (st :: rest) P own ρ := by
  refine W.cons ?_
  constructor
  intro ls σ H s0 sr De e
  exact h ls σ H s0 sr De ⟨fun _ _ _ _ _ l s r q => e.nx _ _ _ _ _ l s r (k _ _ q), e.rt, e.bk, e.ct⟩
/-- bool(x) of an instance -/
theorem Cl.boolO {C f : Addr} {k : Nat} {fd : FuncData} {ps : List Str} {pre : List D → Prop} {post : List D → D → Prop} {ns : List Str} {ds : List D} (hs : PySem.W.findIn X.K (.ref C) "__bool__" = some (some (.ref f))) (hf : PySem.W.isFn X.K (.ref f) = true) (G : FnOk X.prog X.w X.K X.mg X.base CX0 k f fd ps (spF X.K pre post)) (hr : Room (k + 2) X.A) (hb : Binds X.K fd ps [])
    (hp : pre [.ins C ns ds]) (h : ∀ d, post [.ins C ns ds] d → ∃ b, d = .bl b ∧ Q own (.d (.bl b))) : Cl X F (.type "bool") [.d (.ins C ns ds)] Q own := by
  constructor
  intro ls H vs st rr Qv kk pins σ s us I ru
  obtain ⟨v, rfl, rx⟩ := rrs1 rr
  obtain ⟨a, dx, fs, rfl, ha⟩ := ins_at st rx
  obtain ⟨u, rfl, ru1⟩ := Vals.one ru
  obtain rfl : u = Value.ref a := ru1
  obtain ⟨mA, J, _⟩ := ins_get I.hok ha
  obtain ⟨od, J, _⟩ := J.look
  obtain ⟨m, hF⟩ := I.fr
  refine Own.boolc ?_
  refine PySem.W.truthy_K hF I.ok.mod.kin J hs hf ?_
  refine thn (run_at (vs := [.ref a]) G rfl hr.in1.in1 hb I (.cons rfl .nil) (spF_use (Q := fun o r => ∃ b, r = .d (.bl b) ∧ Q o (.d (.bl b))) st (Reps.cons rx Reps.nil) hp (Qv := fun v H' => ∃ b, v = .bl b ∧ Qv (.bl b) H') (fun ls' own' H' r v l s1 rr ⟨b, e, q⟩ => by subst e; exact ⟨b, rr_bl rr, kk _ _ _ (.d (.bl b)) _ l s1 ir_bl q⟩) (fun d hd => by obtain ⟨b, rfl, q⟩ := h d hd; exact ⟨b, rfl, q⟩) _)) fun u s q => ?_
  obtain ⟨v, H', I', r, b, rfl, q⟩ := q
  cases r
  exact ⟨.bl b, H', I', rfl, q⟩
/-- flat data as the kit's data -/
inductive FlatD where
  | b (x : Bool) | i (x : Int) | n | s (x : Str)
def FlatD.d : FlatD → D
  | .b x => .bl x | .i x => .int x | .n => .non | .s x => .str x
def FlatD.p : FlatD → PyData
  | .b x => .bool x | .i x => .int x | .n => .none | .s x => .str x
theorem dp_flat {K : PySem.W.Frag} {G : Hp} : ∀ {xs : List FlatD} {vs : List V}, Reps K G (xs.map FlatD.d) vs → ∀ {H : Hp}, DpAll K H vs (xs.map FlatD.p)
  | [], _, h, _ => by simp only [List.map_nil, Reps] at h; subst h; exact .nil
  | x :: xs, _, h, _ => by
    simp only [List.map_cons, Reps] at h
    obtain ⟨v, r, rfl, h1, h2⟩ := h
    refine .cons ?_ (dp_flat h2)
    cases x <;> simp only [FlatD.d, Rep] at h1 <;> subst h1
    · exact .bl _
    · exact .int _
    · exact .non
    · exact .str _
/-- two lists of flat data compared -/
theorem O2.eqL {xs ys : List FlatD} {a b : List D} {r : Bool} (hu : X.A.units + 64 < cLine) (ha : a = xs.map FlatD.d) (hb : b = ys.map FlatD.d) (sa : SeqAt.shaped (.list (xs.map FlatD.p)) = true) (sb : SeqAt.shaped (.list (ys.map FlatD.p)) = true) (hr : PyData.eqv (.list (xs.map FlatD.p)) (.list (ys.map FlatD.p)) = r) (h : Q own (.d (.bl r))) :
    O2 X F (.cmp .Eq) (.d (.lst a)) (.d (.lst b)) Q own := by
  constructor
  subst ha; subst hb
  intro ls H u v st rx ry Qv k
  obtain ⟨p, vs, rfl, hs, hv⟩ := lst_rr rx
  obtain ⟨q, ws, rfl, hs', hw⟩ := lst_rr ry
  exact (op_eqD hu).to ⟨_, _, .lst (sq_h hs) (dp_flat hv), .lst (sq_h hs') (dp_flat hw), sa, sb, k _ _ _ (.d (.bl _)) _ Le.refl st ir_bl (by rw [hr]; exact h)⟩
end
/-! ### a def that hands back a new list -/
def spN (K : PySem.W.Frag) (pre : List D → Prop) (I : List D → List D → Prop) : Sp := fun vs H Q _ => ∃ (S : List Addr) (ds : List D), (∀ b ∈ S, H b ≠ none) ∧ Reps K (msk S H) ds vs ∧ pre ds ∧
  ∀ p H' xs ps, Same H H' → H p = none → H' p = some (.lst xs) → Reps K (msk (S ++ [p]) H') ps xs → I ds ps → Q (.ref p) H'
section
variable {P : Program} {w : World} {K : PySem.W.Frag} {mg : Str → Option Value} {base : Heap}
theorem ok_N {x qual : Str} {st : Stmt} {f : Addr} {fd : FuncData} {N ps : List Str} {k : Nat} (F : Fun K x qual st f fd) (S : FnScope N ps (defScope st)) {pre : List D → Prop} {I : List D → List D → Prop} (hlen : ∀ ds, pre ds → ds.length = ps.length)
    (body : ∀ (cdv : Value) (A : Around) (outer : List Env) (s : Shared) (H : Hp) (E : XK) (Fr : Fm) (ds : List D), Room k (A.deeper (envOfC qual (defScope st) s.heap.objs.size f cdv)) → Fr.mu = [] → pre ds →
      W (cx0 P w K mg base N qual (defScope st) f cdv A outer s H E) Fr (defBody st) { nx := fun _ _ => False, rt := fun own r => ∃ n qs, r = .c n ∧ own[n]? = some (.lst (qs.map R.d)) ∧ I ds qs } [] (ent N.length (ds.map R.d))) :
    FnOk P w K mg base CX0 (k + 1) f fd ps (spN K pre I) := by
  refine F.ok S (fun vs H Q E h => ?_) (fun cdv A outer s H vs Q E hr h => ?_)
  · obtain ⟨_, ds, _, h2, h3, _⟩ := h
    rw [← h2.length]; exact hlen ds h3
  · obtain ⟨S0, ds, h1, h2, h3, kk⟩ := h
    refine ⟨_, pss_ws, ?_⟩
    have st0 : St0 K (Fm.of H S0 []) [] [] H := ⟨rfl, List.nodup_nil, fun l hl => absurd hl (by simp), fun k l c hl => absurd hl (by simp), fun b o _ e => e, fun b h => h, h1, fun l hl => absurd hl (by simp), List.nil_prefix, fun _ _ e => by cases e⟩
    have eg : Fm.g (Fm.of H S0 []) [] [] H = msk S0 H := by show msk (S0 ++ live [] []) H = _; simp [live]
    have sr : SRep K [] (Fm.g (Fm.of H S0 []) [] [] H) (ent N.length (ds.map R.d)) (L2.start N vs) := start_rep N (by rw [eg]; exact RReps.ofD h2)
    refine body cdv A outer s H E (Fm.of H S0 []) ds hr rfl h3 [] (L2.start N vs) H st0 sr _ ⟨?_, ?_, ?_, ?_⟩
    · intro _ _ _ _ _ _ _ _ q; exact q.elim
    · rintro ls' own' H' r v _ s' rv ⟨n, qs, rfl, hc, q⟩
      obtain ⟨l, hl, rfl⟩ := rv
      obtain ⟨xs, g1, g2⟩ := s'.at_ n l _ hl hc
      have hn : H l = none := by
        rcases (s'.new l (List.mem_of_getElem? hl)).2 with h | h
        · exact h
        · exact absurd h (by simp)
      refine kk l H' xs qs (fun b o e => s'.keep b o (by simp) e) hn g1 (Reps.mono (msk_le fun b hb => ?_) (RReps.toD g2)) q
      rcases List.mem_append.mp hb with h | h
      · exact List.mem_append_left _ h
      · rw [List.mem_singleton.mp h]; exact List.mem_append_right _ (live_get hl hc fun z => by cases z)
    · intro _ _ _ _ _ _ _ _ q; exact q
    · intro _ _ _ _ _ _ _ _ q; exact q
end
section
variable {X : Cx} {F : Fm} {own : List Cell} {ρ : Ro} {Q : QE} {k : Nat} {f : Addr} {fd : FuncData} {ps : List Str} {pre : List D → Prop} {I : List D → List D → Prop} {x : Str} {p pos : Pos} {e : Expr} {es : List Expr}
theorem E.callN (G : FnOk X.prog X.w X.K X.mg X.base CX0 k f fd ps (spN X.K pre I)) (hr : Room k X.A) (hm : X.mg x = some (.ref f)) (hk : PySem.W.keepIn X.K (.ref f) = true) (hb : Binds X.K fd ps [])
    (h : A X F (e :: es) (fun o rs => ∃ ds : List D, rs = ds.map R.d ∧ pre ds ∧ Q (o ++ [.any (I ds)]) (.c o.length)) own ρ) (hg : Gl X x := by rfl) (hdb : (x == ("__debug__" : Str)) = false := by decide) (he : starEach (e :: es) X.env = (false, eval e X.env) :: starEach es X.env := by rfl)
    (hpl : (backTo pos (starEach es X.env)).any (·.1) = false := by rfl) : E X F (.Call (.Name x p) (e :: es) [] pos) Q own ρ := by
  constructor
  intro ls σ H st sr Qv k
  refine (pe_call G hr hg hm hk hb .nil pass0 pa_wa hdb he hpl).to ?_
  refine h ls σ H st sr _ fun ls1 own1 H1 rs vs l1 s1 rr ⟨ds, er, hp, q⟩ => ?_
  subst er
  rw [List.append_nil]
  refine ⟨F.S0 ++ live ls1 own1, ds, s1.hid, RReps.toD rr, hp, fun p H' xs qs sm hn g1 g2 g3 => ?_⟩
  have z := st0_adopt (c := .any (I ds)) s1 sm hn (fun z => by cases z) ⟨xs, qs, g1, g2, g3⟩
  exact k _ _ _ (.c own1.length) _ (l1.trans z.2) z.1 ⟨p, by rw [← s1.len]; simp, rfl⟩ q
end
end DL

namespace DL
open PySem PySem.Spec PyProof.Rows L2
/-! ### defs and methods with what is known of them -/
/-- a def of the module, as it stands -/
structure Df (K : PySem.W.Frag) (mg : Str → Option Value) (x : Str) (st : Stmt) (ps : List Str) (f : Addr) (fd : FuncData) : Prop where
  fn : Fun K x x st f fd
  mg : mg x = some (.ref f)
  bd : Binds K fd ps []
/-- a method of the class, as it stands -/
structure Dm (K : PySem.W.Frag) (C : Addr) (x qual : Str) (st : Stmt) (ps : List Str) (f : Addr) (fd : FuncData) : Prop where
  fn : Fun K x qual st f fd
  at_ : PySem.W.findIn K (.ref C) x = some (some (.ref f))
  isf : PySem.W.isFn K (.ref f) = true
  bd : Binds K fd ps []
/-- a def of the module and its promise -/
def DOk (P : Program) (w : World) (K : PySem.W.Frag) (mg : Str → Option Value) (base : Heap) (CX : CXT) (x : Str) (k : Nat) (sp : Sp) : Prop :=
  ∃ f fd ps, mg x = some (.ref f) ∧ PySem.W.keepIn K (.ref f) = true ∧ FnOk P w K mg base CX k f fd ps sp ∧ Binds K fd ps []
def MOk (P : Program) (w : World) (K : PySem.W.Frag) (mg : Str → Option Value) (base : Heap) (CX : CXT) (C : Addr) (x : Str) (k : Nat) (sp : Sp) : Prop :=
  ∃ f fd ps, PySem.W.findIn K (.ref C) x = some (some (.ref f)) ∧ PySem.W.isFn K (.ref f) = true ∧ PySem.W.keepIn K (.ref f) = true ∧ FnOk P w K mg base CX k f fd ps sp ∧ Binds K fd ps []
/-- the class's making: d the defaults that fill up -/
def IOk (P : Program) (w : World) (K : PySem.W.Frag) (mg : Str → Option Value) (base : Heap) (CX : CXT) (C : Addr) (k : Nat) (dds : List D) (sp : Sp) : Prop :=
  ∃ f fd ps dvs dus, Mk K C f ∧ FnOk P w K mg base CX k f fd ps sp ∧ Binds K fd ps dus ∧ Vals dvs dus ∧ ∀ G, Reps K G dds dvs
section
variable {P : Program} {w : World} {K : PySem.W.Frag} {mg : Str → Option Value} {base : Heap} {CX : CXT} {x qual : Str} {st : Stmt} {ps : List Str} {f C : Addr} {fd : FuncData} {k : Nat} {sp : Sp}
theorem Df.ok (d : Df K mg x st ps f fd) (h : FnOk P w K mg base CX k f fd ps sp) : DOk P w K mg base CX x k sp := ⟨f, fd, ps, d.mg, d.fn.kp, h, d.bd⟩
theorem Dm.ok (d : Dm K C x qual st ps f fd) (h : FnOk P w K mg base CX k f fd ps sp) : MOk P w K mg base CX C x k sp := ⟨f, fd, ps, d.at_, d.isf, d.fn.kp, h, d.bd⟩
end
section
variable {X : Cx} {F : Fm} {own : List Cell} {ρ : Ro} {Q : QE} {QT : QT} {k : Nat} {C : Addr} {pre : List D → Prop} {post : List D → D → Prop} {I : List D → Prop} {I2 : List D → List D → Prop} {x m nm rn : Str} {p pos apos : Pos} {e o : Expr} {es : List Expr} {ns ns' : List Str} {ds ds' : List D} {op : Operator} {i : Int}
theorem E.dcall (G : DOk X.prog X.w X.K X.mg X.base CX0 x k (spF X.K pre post)) (hr : Room k X.A)
    (h : A X F (e :: es) (fun o rs => ∃ ds : List D, rs = ds.map R.d ∧ pre ds ∧ ∀ d, post ds d → Q o (.d d)) own ρ) (hg : Gl X x := by rfl) (hdb : (x == ("__debug__" : Str)) = false := by decide) (he : starEach (e :: es) X.env = (false, eval e X.env) :: starEach es X.env := by rfl)
    (hpl : (backTo pos (starEach es X.env)).any (·.1) = false := by rfl) : E X F (.Call (.Name x p) (e :: es) [] pos) Q own ρ := by
  obtain ⟨f, fd, ps, hm, hk, G, hb⟩ := G
  exact E.call G hr hm hk hb h hg hdb he hpl
theorem E.dcallP (G : DOk X.prog X.w X.K X.mg X.base CX0 x k (spP X.K I pre post)) (hr : Room k X.A)
    (h : A X F (e :: es) (fun o rs => ∃ (n : Nat) (ds : List D), rs = .c n :: ds.map R.d ∧ o[n]? = some (.any I) ∧ pre ds ∧ ∀ d, post ds d → Q o (.d d)) own ρ) (hg : Gl X x := by rfl) (hdb : (x == ("__debug__" : Str)) = false := by decide) (he : starEach (e :: es) X.env = (false, eval e X.env) :: starEach es X.env := by rfl)
    (hpl : (backTo pos (starEach es X.env)).any (·.1) = false := by rfl) : E X F (.Call (.Name x p) (e :: es) [] pos) Q own ρ := by
  obtain ⟨f, fd, ps, hm, hk, G, hb⟩ := G
  exact E.callP G hr hm hk hb h hg hdb he hpl
theorem E.dcallN (G : DOk X.prog X.w X.K X.mg X.base CX0 x k (spN X.K pre I2)) (hr : Room k X.A)
    (h : A X F (e :: es) (fun o rs => ∃ ds : List D, rs = ds.map R.d ∧ pre ds ∧ Q (o ++ [.any (I2 ds)]) (.c o.length)) own ρ) (hg : Gl X x := by rfl) (hdb : (x == ("__debug__" : Str)) = false := by decide) (he : starEach (e :: es) X.env = (false, eval e X.env) :: starEach es X.env := by rfl)
    (hpl : (backTo pos (starEach es X.env)).any (·.1) = false := by rfl) : E X F (.Call (.Name x p) (e :: es) [] pos) Q own ρ := by
  obtain ⟨f, fd, ps, hm, hk, G, hb⟩ := G
  exact E.callN G hr hm hk hb h hg hdb he hpl
/-- C(e, ..) -/
theorem E.dmake {ns : List Str} {dds : List D} {postI : List D → List D → Prop} (G : IOk X.prog X.w X.K X.mg X.base CX0 C k dds (spI X.K C ns pre postI)) (hm : X.mg x = some (.ref C)) (hr : Room (k + 1) X.A)
    (h : A X F (e :: es) (fun o rs => ∃ ds : List D, rs = ds.map R.d ∧ pre (ds ++ dds) ∧ ∀ fs, postI (ds ++ dds) fs → Q o (.d (.ins C ns fs))) own ρ) (hg : Gl X x := by rfl) (hdb : (x == ("__debug__" : Str)) = false := by decide) (he : starEach (e :: es) X.env = (false, eval e X.env) :: starEach es X.env := by rfl)
    (hpl : (backTo pos (starEach es X.env)).any (·.1) = false := by rfl) : E X F (.Call (.Name x p) (e :: es) [] pos) Q own ρ := by
  obtain ⟨f, fd, ps, dvs, dus, M, G, hb, hv, hd⟩ := G
  exact E.make M G hr hm hb hv hd h hg hdb he hpl
theorem E.dmakeX {ns : List Str} {dds : List D} {postI : List D → List D → Prop} {exc : List D → Value → Prop} {XC : Value → List Cell → Ro → Prop} (tk : Tk X F XC) (G : IOk X.prog X.w X.K X.mg X.base (L2.CX X.prog X.w) C k dds (spIX X.K C ns pre postI exc)) (hm : X.mg x = some (.ref C)) (hr : Room (k + 1) X.A)
    (h : A X F (e :: es) (fun o rs => ∃ ds : List D, rs = ds.map R.d ∧ pre (ds ++ dds) ∧ (∀ fs, postI (ds ++ dds) fs → Q o (.d (.ins C ns fs))) ∧ ∀ cls, exc (ds ++ dds) cls → XC cls o ρ) own ρ) (hg : Gl X x := by rfl) (hdb : (x == ("__debug__" : Str)) = false := by decide) (he : starEach (e :: es) X.env = (false, eval e X.env) :: starEach es X.env := by rfl)
    (hpl : (backTo pos (starEach es X.env)).any (·.1) = false := by rfl) : E X F (.Call (.Name x p) (e :: es) [] pos) Q own ρ := by
  obtain ⟨f, fd, ps, dvs, dus, M, G, hb, hv, hd⟩ := G
  exact E.makeX tk M G hr hm hb hv hd h hg hdb he hpl
theorem E.dmeth {pl : Sem Bool} (c : Cls X.K C) (G : MOk X.prog X.w X.K X.mg X.base CX0 C m k (spF X.K pre post)) (hr : Room k X.A)
    (h : E X F o (fun o1 r => ∃ ns ds0, r = .d (.ins C ns ds0) ∧ (ns.zip ds0).lookup m = none ∧ A X F (e :: es) (fun o2 rs => ∃ ds : List D, rs = ds.map R.d ∧ pre (.ins C ns ds0 :: ds) ∧ ∀ d, post (.ins C ns ds0 :: ds) d → Q o2 (.d d)) o1 ρ) own ρ)
    (hst : starEach (e :: es) X.env = (false, eval e X.env) :: starEach es X.env := by rfl) (hpl : (backTo pos (starEach es X.env)).any (·.1) = false := by rfl)
    (ht : eval (.Call (.Attribute o m apos) (e :: es) [] pos) X.env = (do
      let ov ← eval o X.env
      standAt apos.atName
      let (f, first) ← holding [ov] (getMethod ov m pl)
      callWith pos f first (backTo pos (starEach (e :: es) X.env)) (backToKw pos (keywordEach [] X.env))) := by rfl) : E X F (.Call (.Attribute o m apos) (e :: es) [] pos) Q own ρ := by
  obtain ⟨f, fd, ps, h1, h2, h3, G, hb⟩ := G
  exact E.meth (pl := pl) c ⟨h1, h2, h3⟩ G hr hb h hst hpl ht
theorem E.dmeth0 {pl : Sem Bool} (c : Cls X.K C) (G : MOk X.prog X.w X.K X.mg X.base CX0 C m k (spF X.K pre post)) (hr : Room k X.A)
    (h : E X F o (fun o1 r => ∃ ns ds0, r = .d (.ins C ns ds0) ∧ (ns.zip ds0).lookup m = none ∧ pre [.ins C ns ds0] ∧ ∀ d, post [.ins C ns ds0] d → Q o1 (.d d)) own ρ)
    (ht : eval (.Call (.Attribute o m apos) [] [] pos) X.env = (do
      let ov ← eval o X.env
      standAt apos.atName
      let (f, first) ← holding [ov] (getMethod ov m pl)
      callWith pos f first (backTo pos (starEach [] X.env)) (backToKw pos (keywordEach [] X.env))) := by rfl) : E X F (.Call (.Attribute o m apos) [] [] pos) Q own ρ := by
  obtain ⟨f, fd, ps, h1, h2, h3, G, hb⟩ := G
  exact E.meth0 (pl := pl) c ⟨h1, h2, h3⟩ G hr hb h ht
theorem E.dmethX {pl : Sem Bool} {exc : List D → Value → Prop} {XC : Value → List Cell → Ro → Prop} (tk : Tk X F XC) (c : Cls X.K C) (G : MOk X.prog X.w X.K X.mg X.base (L2.CX X.prog X.w) C m k (spX X.K pre post exc)) (hr : Room k X.A)
    (h : E X F o (fun o1 r => ∃ ns ds0, r = .d (.ins C ns ds0) ∧ (ns.zip ds0).lookup m = none ∧ A X F (e :: es) (fun o2 rs => ∃ ds : List D, rs = ds.map R.d ∧ pre (.ins C ns ds0 :: ds) ∧ (∀ d, post (.ins C ns ds0 :: ds) d → Q o2 (.d d)) ∧ ∀ cls, exc (.ins C ns ds0 :: ds) cls → XC cls o2 ρ) o1 ρ) own ρ)
    (hst : starEach (e :: es) X.env = (false, eval e X.env) :: starEach es X.env := by rfl) (hpl : (backTo pos (starEach es X.env)).any (·.1) = false := by rfl)
    (ht : eval (.Call (.Attribute o m apos) (e :: es) [] pos) X.env = (do
      let ov ← eval o X.env
      standAt apos.atName
      let (f, first) ← holding [ov] (getMethod ov m pl)
      callWith pos f first (backTo pos (starEach (e :: es) X.env)) (backToKw pos (keywordEach [] X.env))) := by rfl) : E X F (.Call (.Attribute o m apos) (e :: es) [] pos) Q own ρ := by
  obtain ⟨f, fd, ps, h1, h2, h3, G, hb⟩ := G
  exact E.methX (pl := pl) tk c ⟨h1, h2, h3⟩ G hr hb h hst hpl ht
theorem O2.dB (hc : PySem.W.selfFirst X.K C = true) (hd : PySem.dunder op.info.2 = nm) (G : MOk X.prog X.w X.K X.mg X.base CX0 C nm k (spF X.K pre post)) (hr : Room k X.A)
    (hp : pre [.ins C ns ds, .ins C ns' ds']) (h : ∀ d, post [.ins C ns ds, .ins C ns' ds'] d → Q own (.d d)) : O2 X F (.bin op) (.d (.ins C ns ds)) (.d (.ins C ns' ds')) Q own := by
  subst hd
  obtain ⟨f, fd, ps, h1, h2, h3, G, hb⟩ := G
  exact O2.ownB hc h1 h2 G hr hb hp h
theorem O2.dI {sp2 : Sp} {k2 : Nat} {CX : CXT} (hc : PySem.W.selfFirst X.K C = true) (hd : PySem.dunder op.info.2 = nm) (hd2 : dunderR op.info.2 = rn) (G : MOk X.prog X.w X.K X.mg X.base CX0 C nm k (spF X.K pre post)) (G2 : MOk X.prog X.w X.K X.mg X.base CX C rn k2 sp2) (hr : Room k X.A)
    (h1 : ∃ fo, PySem.W.findIn X.K (.type "int") nm = some fo) (h2 : ∃ ro, PySem.W.findIn X.K (.type "int") rn = some ro) (hsub : PySem.W.subIn X.K (.type "int") (.ref C) = some false)
    (hp : pre [.ins C ns ds, .int i]) (h : ∀ d, post [.ins C ns ds, .int i] d → Q own (.d d)) : O2 X F (.bin op) (.d (.ins C ns ds)) (.d (.int i)) Q own := by
  subst hd; subst hd2
  obtain ⟨f, fd, ps, a1, a2, a3, G, hb⟩ := G
  obtain ⟨g, _, _, b1, _⟩ := G2
  obtain ⟨fo, h1⟩ := h1
  obtain ⟨ro, h2⟩ := h2
  exact O2.ownI hc a1 a2 b1 (.inr ⟨g, rfl⟩) h1 h2 hsub G hr hb hp h
theorem O2.dR {idl : String} {B : Builtin} {sp2 : Sp} {k2 : Nat} {CX : CXT} (hc : PySem.W.selfFirst X.K C = true) (hd : PySem.dunder op.info.2 = nm) (hd2 : dunderR op.info.2 = rn) (G : MOk X.prog X.w X.K X.mg X.base CX0 C rn k (spF X.K pre post)) (G2 : MOk X.prog X.w X.K X.mg X.base CX C nm k2 sp2) (hr : Room k X.A)
    (hfill : fillsNumberSlot (.type "int") op.info.2 = pure true) (slot : Slot "int" nm idl) (entry : entryFor table idl = some B) (args : ∀ i t x, argsOk idl ⟨[.int i t, .ref x], []⟩) (dc : ∀ i t x dx, Own.Decl X.prog X.w B i t x C dx)
    (hsub : PySem.W.subIn X.K (.ref C) (.type "int") = some false) (hp : pre [.ins C ns ds, .int i]) (h : ∀ d, post [.ins C ns ds, .int i] d → Q own (.d d)) : O2 X F (.bin op) (.d (.int i)) (.d (.ins C ns ds)) Q own := by
  subst hd; subst hd2
  obtain ⟨f, fd, ps, a1, a2, a3, G, hb⟩ := G
  obtain ⟨g, _, _, b1, _⟩ := G2
  exact O2.ownR hc b1 a1 a2 hfill slot entry args dc hsub G hr hb hp h
theorem O1.dN (G : MOk X.prog X.w X.K X.mg X.base CX0 C "__neg__" k (spF X.K pre post)) (hr : Room k X.A) (hp : pre [.ins C ns ds]) (h : ∀ d, post [.ins C ns ds] d → Q own (.d d)) : O1 X F .USub (.d (.ins C ns ds)) Q own := by
  obtain ⟨f, fd, ps, a1, a2, a3, G, hb⟩ := G
  exact O1.ownN a1 a2 G hr hb hp h
theorem Cl.dAbs (G : MOk X.prog X.w X.K X.mg X.base CX0 C "__abs__" k (spF X.K pre post)) (hr : Room (k + 1) X.A) (hp : pre [.ins C ns ds]) (h : ∀ d, post [.ins C ns ds] d → Q own (.d d)) : Cl X F (.builtin "abs") [.d (.ins C ns ds)] Q own := by
  obtain ⟨f, fd, ps, a1, a2, a3, G, hb⟩ := G
  exact Cl.absO a1 a2 G hr hb hp h
theorem Cl.dBool (G : MOk X.prog X.w X.K X.mg X.base CX0 C "__bool__" k (spF X.K pre post)) (hr : Room (k + 2) X.A) (hp : pre [.ins C ns ds]) (h : ∀ d, post [.ins C ns ds] d → ∃ b, d = .bl b ∧ Q own (.d (.bl b))) : Cl X F (.type "bool") [.d (.ins C ns ds)] Q own := by
  obtain ⟨f, fd, ps, a1, a2, a3, G, hb⟩ := G
  exact Cl.boolO a1 a2 G hr hb hp h
theorem Tr.dT (G : MOk X.prog X.w X.K X.mg X.base CX0 C "__bool__" k (spF X.K pre post)) (hr : Room k X.A) (hp : pre [.ins C ns ds]) (h : ∀ d, post [.ins C ns ds] d → ∃ b, d = .bl b ∧ QT own b) : Tr X F (.d (.ins C ns ds)) QT own := by
  obtain ⟨f, fd, ps, a1, a2, a3, G, hb⟩ := G
  exact Tr.ownT a1 a2 G hr hb hp h
theorem O2.dEq {ns' : List Str} {ds' : List D} (G : MOk X.prog X.w X.K X.mg X.base CX0 C "__eq__" k (spF X.K pre post)) (hr : Room k X.A) (hn : PySem.W.notFirst X.K C (.ref C) = true) (hp : pre [.ins C ns ds, .ins C ns' ds']) (h : ∀ d, post [.ins C ns ds, .ins C ns' ds'] d → Q own (.d d)) : O2 X F (.cmp .Eq) (.d (.ins C ns ds)) (.d (.ins C ns' ds')) Q own := by
  obtain ⟨f, fd, ps, a1, a2, a3, G, hb⟩ := G
  exact O2.ownEq ty_ins hn a1 a2 G hr hb hp h
theorem O2.dEqI (G : MOk X.prog X.w X.K X.mg X.base CX0 C "__eq__" k (spF X.K pre post)) (hr : Room k X.A) (hn : PySem.W.notFirst X.K C (.type "int") = true) (hp : pre [.ins C ns ds, .int i]) (h : ∀ d, post [.ins C ns ds, .int i] d → Q own (.d d)) : O2 X F (.cmp .Eq) (.d (.ins C ns ds)) (.d (.int i)) Q own := by
  obtain ⟨f, fd, ps, a1, a2, a3, G, hb⟩ := G
  exact O2.ownEq ty_int hn a1 a2 G hr hb hp h
theorem O2.dEqR (G : MOk X.prog X.w X.K X.mg X.base CX0 C "__eq__" k (spF X.K pre post)) (hr : Room k X.A) (hsub : PySem.W.subIn X.K (.ref C) (.type "int") = some false) (hp : pre [.ins C ns ds, .int i]) (h : ∀ d, post [.ins C ns ds, .int i] d → Q own (.d d)) : O2 X F (.cmp .Eq) (.d (.int i)) (.d (.ins C ns ds)) Q own := by
  obtain ⟨f, fd, ps, a1, a2, a3, G, hb⟩ := G
  exact O2.ownEqR a1 a2 hsub G hr hb hp h
theorem O2.dNeI (G : MOk X.prog X.w X.K X.mg X.base CX0 C "__eq__" k (spF X.K pre post)) (hr : Room (k + 1) X.A) (hn : PySem.W.notFirst X.K C (.type "int") = true) (hne : PySem.W.findIn X.K (.ref C) "__ne__" = some (some (.builtin "object.__ne__"))) (hobj : PySem.W.subIn X.K (.ref C) (.type "object") = some true)
    (hp : pre [.ins C ns ds, .int i]) (h : ∀ d, post [.ins C ns ds, .int i] d → ∃ b, d = .bl b ∧ Q own (.d (.bl (!b)))) : O2 X F (.cmp .NotEq) (.d (.ins C ns ds)) (.d (.int i)) Q own := by
  obtain ⟨f, fd, ps, a1, a2, a3, G, hb⟩ := G
  exact O2.ownNe ty_int hn a1 hne a2 hobj G hr hb hp h
end
end DL

/-! ratios: the plain law -/
namespace RT
/-- p over q is t over b in lowest terms -/
def Nrm (t b p q : Int) : Prop := 0 < q ∧ p * b = t * q ∧ Nat.gcd p.natAbs q.natAbs = 1
theorem nrm_core {t b : Int} {g : Int} (hg : g ≠ 0) (ht : g ∣ t) (hb : g ∣ b) (hga : g.natAbs = Nat.gcd t.natAbs b.natAbs) (hq : 0 < b.fdiv g) : Nrm t b (t.fdiv g) (b.fdiv g) := by
  obtain ⟨x, rfl⟩ := ht
  obtain ⟨y, rfl⟩ := hb
  have e1 : (g * x).fdiv g = x := Int.mul_fdiv_cancel_left x hg
  have e2 : (g * y).fdiv g = y := Int.mul_fdiv_cancel_left y hg
  rw [e1, e2]
  rw [e2] at hq
  refine ⟨hq, by rw [Int.mul_comm g y, Int.mul_comm g x, ← Int.mul_assoc, Int.mul_right_comm], ?_⟩
  rw [Int.natAbs_mul, Int.natAbs_mul, Nat.gcd_mul_left] at hga
  have h0 : 0 < g.natAbs := by omega
  have : g.natAbs * 1 = g.natAbs * Nat.gcd x.natAbs y.natAbs := by rw [← hga]; omega
  exact (Nat.eq_of_mul_eq_mul_left h0 this).symm
theorem gcd_ne {t b : Int} (hb : b ≠ 0) : ((Nat.gcd t.natAbs b.natAbs : Nat) : Int) ≠ 0 := by
  have : 0 < Nat.gcd t.natAbs b.natAbs := Nat.gcd_pos_of_pos_right _ (by omega)
  omega
theorem gcd_le {t b : Int} (hb : b ≠ 0) : Nat.gcd t.natAbs b.natAbs ≤ b.natAbs := Nat.le_of_dvd (by omega) (Nat.gcd_dvd_right _ _)
theorem gcd_dl {t b : Int} : ((Nat.gcd t.natAbs b.natAbs : Nat) : Int) ∣ t := Int.ofNat_dvd_left.mpr (Nat.gcd_dvd_left _ _)
theorem gcd_dr {t b : Int} : ((Nat.gcd t.natAbs b.natAbs : Nat) : Int) ∣ b := Int.ofNat_dvd_left.mpr (Nat.gcd_dvd_right _ _)
theorem nrm_pos {t b : Int} (hb : 0 < b) : Nrm t b (t.fdiv ((Nat.gcd t.natAbs b.natAbs : Nat) : Int)) (b.fdiv ((Nat.gcd t.natAbs b.natAbs : Nat) : Int)) := by
  have g0 := gcd_ne (t := t) (b := b) (by omega)
  refine nrm_core g0 gcd_dl gcd_dr (by rw [Int.natAbs_natCast]) ?_
  obtain ⟨y, e⟩ := gcd_dr (t := t) (b := b)
  have gp : (0 : Int) < ((Nat.gcd t.natAbs b.natAbs : Nat) : Int) := by omega
  generalize ((Nat.gcd t.natAbs b.natAbs : Nat) : Int) = g at *
  rw [e, Int.mul_fdiv_cancel_left y g0]
  exact Int.lt_of_mul_lt_mul_left (a := g) (by rw [Int.mul_zero, ← e]; exact hb) (by omega)
theorem nrm_neg {t b : Int} (hb : b < 0) : Nrm t b (t.fdiv (-((Nat.gcd t.natAbs b.natAbs : Nat) : Int))) (b.fdiv (-((Nat.gcd t.natAbs b.natAbs : Nat) : Int))) := by
  have g0 := gcd_ne (t := t) (b := b) (by omega)
  refine nrm_core (by omega) (Int.neg_dvd.mpr gcd_dl) (Int.neg_dvd.mpr gcd_dr) (by rw [Int.natAbs_neg, Int.natAbs_natCast]) ?_
  obtain ⟨y, e⟩ := gcd_dr (t := t) (b := b)
  have gp : (0 : Int) < ((Nat.gcd t.natAbs b.natAbs : Nat) : Int) := by omega
  generalize ((Nat.gcd t.natAbs b.natAbs : Nat) : Int) = g at *
  have e' : b = -g * -y := by rw [Int.neg_mul_neg]; exact e
  rw [e', Int.mul_fdiv_cancel_left (-y) (by omega)]
  exact Int.lt_of_mul_lt_mul_left (a := g) (by rw [Int.mul_zero, Int.mul_neg, ← e]; omega) (by omega)
theorem Nrm.conv {t b t' b' p q : Int} (h : Nrm t b p q) (hb : b ≠ 0) (e : t * b' = t' * b) : Nrm t' b' p q := by
  refine ⟨h.1, ?_, h.2.2⟩
  have h2 := h.2.1
  apply Int.eq_of_mul_eq_mul_right hb
  calc p * b' * b = (p * b) * b' := by rw [Int.mul_right_comm]
    _ = t * q * b' := by rw [h2]
    _ = t * b' * q := by rw [Int.mul_right_comm]
    _ = t' * b * q := by rw [e]
    _ = t' * q * b := by rw [Int.mul_right_comm]
theorem Nrm.le {t b p q : Int} (h : Nrm t b p q) (hb : b ≠ 0) : p.natAbs ≤ t.natAbs ∧ q.natAbs ≤ b.natAbs := by
  obtain ⟨hq, h2, h3⟩ := h
  have e : p.natAbs * b.natAbs = t.natAbs * q.natAbs := by rw [← Int.natAbs_mul, ← Int.natAbs_mul, h2]
  have d1 : q.natAbs ∣ b.natAbs := (Nat.Coprime.dvd_of_dvd_mul_left (m := p.natAbs) (by rw [Nat.Coprime, Nat.gcd_comm]; exact h3) ⟨t.natAbs, by rw [e, Nat.mul_comm]⟩)
  have d2 : p.natAbs ∣ t.natAbs := (Nat.Coprime.dvd_of_dvd_mul_right (n := q.natAbs) h3 ⟨b.natAbs, e.symm⟩)
  refine ⟨?_, Nat.le_of_dvd (by omega) d1⟩
  by_cases z : t.natAbs = 0
  · rw [z, Nat.zero_mul] at e
    have : p.natAbs = 0 := (Nat.mul_eq_zero.mp e).resolve_right (by omega)
    omega
  · exact Nat.le_of_dvd (by omega) d2
/-! ### Euclid's walk in a bounded number of turns -/
structure Eu (g B i o t : Nat) : Prop where
  gc : Nat.gcd o t = g
  sz : i = 0 ∨ (0 < o ∧ t < o ∧ o * t * 2 ^ (i - 1) < 2 ^ (2 * B))
theorem Eu.step {g B i o t : Nat} (h : Eu g B i o t) (ht : t ≠ 0) (hB : i = 0 → t < 2 ^ B) : Eu g B (i + 1) t (o % t) := by
  have hr : o % t < t := Nat.mod_lt _ (by omega)
  refine ⟨by rw [← h.gc, Nat.gcd_comm o t, Nat.gcd_rec t o, Nat.gcd_comm], .inr ⟨by omega, hr, ?_⟩⟩
  rcases h.sz with h0 | ⟨h1, h2, h3⟩
  · subst h0
    have hb := hB rfl
    simp only [Nat.zero_add, Nat.sub_self, Nat.pow_zero, Nat.mul_one]
    calc t * (o % t) < t * t := Nat.mul_lt_mul_of_pos_left hr (by omega)
      _ < 2 ^ B * 2 ^ B := Nat.mul_lt_mul'' hb hb
      _ = 2 ^ (2 * B) := by rw [← Nat.pow_add]; congr 1; omega
  · have key : 2 * (o % t) ≤ o := by
      have := Nat.div_add_mod o t
      have hd : 1 ≤ o / t := Nat.div_pos (by omega) (by omega)
      have : t * 1 ≤ t * (o / t) := Nat.mul_le_mul_left _ hd
      omega
    have hi : 1 ≤ i ∨ i = 0 := by omega
    rcases hi with hi | hi
    · have e : 2 ^ (i + 1 - 1) = 2 * 2 ^ (i - 1) := by rw [show i + 1 - 1 = (i - 1) + 1 from by omega, Nat.pow_succ, Nat.mul_comm]
      rw [e]
      calc t * (o % t) * (2 * 2 ^ (i - 1)) = t * (2 * (o % t)) * 2 ^ (i - 1) := by rw [← Nat.mul_assoc, Nat.mul_assoc t, Nat.mul_comm (o % t) 2]
        _ ≤ t * o * 2 ^ (i - 1) := Nat.mul_le_mul_right _ (Nat.mul_le_mul_left _ key)
        _ = o * t * 2 ^ (i - 1) := by rw [Nat.mul_comm t o]
        _ < 2 ^ (2 * B) := h3
    · subst hi
      simp only [Nat.zero_add, Nat.sub_self, Nat.pow_zero, Nat.mul_one]
      simp only [Nat.zero_sub, Nat.pow_zero, Nat.mul_one] at h3
      have : t * (o % t) ≤ t * o := Nat.mul_le_mul_left _ (by omega)
      rw [Nat.mul_comm o t] at h3
      omega
theorem Eu.last {g B o t : Nat} (h : Eu g B (2 * B + 2) o t) : o = g := by
  rcases h.sz with h0 | ⟨h1, h2, h3⟩
  · omega
  · have : t = 0 := by
      rcases Nat.eq_zero_or_pos t with z | z
      · exact z
      · exfalso
        have h4 : 1 * 2 ^ (2 * B + 2 - 1) ≤ o * t * 2 ^ (2 * B + 2 - 1) := Nat.mul_le_mul_right _ (Nat.mul_pos h1 z)
        have h5 : 2 ^ (2 * B) < 2 ^ (2 * B + 2 - 1) := Nat.pow_lt_pow_right (by omega) (by omega)
        omega
    have := h.gc
    rw [‹t = 0›, Nat.gcd_zero_right] at this
    exact this
theorem Eu.done {g B i o : Nat} (h : Eu g B i o 0) : o = g := by have := h.gc; rwa [Nat.gcd_zero_right] at this
end RT

namespace Toy
open PySem PySem.Spec PyProof.Rows L2 DL
def top (i : Nat) : Stmt := PySem.Challenge.pw_heightsfitted_k00_ratios_are_exact.main.body.getD i (.Pass ⟨0, 0, 0, 0⟩)
/-- the built-ins that the text leaves as they are -/
structure Bl (mg : Str → Option Value) : Prop where
  abs : mg "abs" = none
  int : mg "int" = none
  len : mg "len" = none
  list : mg "list" = none
  max : mg "max" = none
  range : mg "range" = none
  isinstance : mg "isinstance" = none
  bool : mg "bool" = none

theorem szle {n : Nat} (h : n ≤ 100000) : n ≤ sizeLine := Nat.le_trans h (by decide)
theorem szlt {n : Nat} (h : n < 100000) : n < sizeLine := Nat.lt_of_lt_of_le h (by decide)
theorem sz0 : 0 ≤ sizeLine := by decide
theorem sz1 : 1 ≤ sizeLine := by decide
theorem sz2 : 2 ≤ sizeLine := by decide
theorem sz3 : 3 ≤ sizeLine := by decide
theorem sz4 : 4 ≤ sizeLine := by decide
theorem sz5 : 5 ≤ sizeLine := by decide
theorem sz6 : 6 ≤ sizeLine := by decide
theorem sz7 : 7 ≤ sizeLine := by decide
theorem bt_int : bootBuiltins "int" = some (.type "int") := by decide +kernel
theorem bt_list : bootBuiltins "list" = some (.type "list") := by decide +kernel
theorem bt_bool : bootBuiltins "bool" = some (.type "bool") := by decide +kernel
theorem bt_tuple : bootBuiltins "tuple" = some (.type "tuple") := by decide +kernel
theorem bt_str : bootBuiltins "str" = some (.type "str") := by decide +kernel
theorem bt_abs : bootBuiltins "abs" = some (.builtin "abs") := by decide +kernel
theorem bt_len : bootBuiltins "len" = some (.builtin "len") := by decide +kernel
theorem bt_max : bootBuiltins "max" = some (.builtin "max") := by decide +kernel
theorem bt_min : bootBuiltins "min" = some (.builtin "min") := by decide +kernel
theorem bt_isinstance : bootBuiltins "isinstance" = some (.builtin "isinstance") := by decide +kernel
theorem bt_sum : bootBuiltins "sum" = some (.builtin "sum") := by decide +kernel
theorem bt_sorted : bootBuiltins "sorted" = some (.builtin "sorted") := by decide +kernel
theorem at0 {α : Type} {a : α} {xs : List α} : atI (a :: xs) 0 = some a := atI_nat (j := 0) rfl
theorem at1 {α : Type} {a b : α} {xs : List α} : atI (a :: b :: xs) 1 = some b := atI_nat (j := 1) rfl
theorem at2 {α : Type} {a b c : α} {xs : List α} : atI (a :: b :: c :: xs) 2 = some c := atI_nat (j := 2) rfl
theorem ifd {p A B : Prop} [Decidable p] (h1 : p → A) (h2 : ¬ p → B) : if decide p = true then A else B := by
  by_cases h : p
  · rw [decide_eq_true h]; exact iteT (h1 h)
  · rw [decide_eq_false h]; exact iteF (h2 h)
theorem ifn {p A B : Prop} [Decidable p] (h1 : ¬ p → A) (h2 : p → B) : if (!decide p) = true then A else B := by
  by_cases h : p
  · rw [decide_eq_true h]; exact iteF (h2 h)
  · rw [decide_eq_false h]; exact iteT (h1 h)
theorem ifT {p A B : Prop} [Decidable p] (h : p) (a : A) : if decide p = true then A else B := by rw [decide_eq_true h]; exact iteT a
theorem ifF {p A B : Prop} [Decidable p] (h : ¬ p) (a : B) : if decide p = true then A else B := by rw [decide_eq_false h]; exact iteF a
theorem cut1 {a : D} {xs : List D} : DL.cutD (a :: xs) (some 1) none = xs := by
  unfold DL.cutD
  have e1 : HT.sIx (a :: xs).length 0 (some 1) = 1 := by simp [HT.sIx]
  have e2 : HT.sIx (a :: xs).length (a :: xs).length none = xs.length + 1 := by simp [HT.sIx]
  rw [e1, e2]
  simp
local macro_rules | `(tactic| walk_at "o") => `(tactic| first
  | refine O2.lt ?_ | refine O2.le ?_ | refine O2.gt ?_ | refine O2.ge ?_ | refine O2.eq ?_ | refine O2.ne ?_ | refine O2.add ?_ | refine O2.sub ?_ | refine O2.cat (by walk_at "sz") ?_
  | refine O2.mulS (.inr (by decide)) ?_ | refine O2.mulS (.inl (by decide)) ?_ | refine O2.mulS (.inl ⟨by omega, by omega⟩) ?_ | refine O2.mulS (.inr ⟨by omega, by omega⟩) ?_ | refine O2.mul (by walk_at "mul") ?_ | refine O2.mod (by first | decide | omega) ?_ | refine O2.fdiv (by first | decide | exact ⟨by omega, by omega⟩) ?_ | refine O2.fdivW (by walk_at "div") ?_ | refine O2.fdivA (by walk_at "divA") ?_
  | refine O2.pow ⟨by decide, by decide, by decide⟩ ?_ | refine O2.eqB ?_ | refine O2.neB ?_ | refine O2.eqS ?_ | refine O2.neS ?_ | refine O2.catS (by walk_at "sz") ?_)
local macro_rules | `(tactic| walk_at "div") => `(tactic| assumption)
local macro_rules | `(tactic| walk_at "mul") => `(tactic| assumption)
local macro_rules | `(tactic| walk_at "divA") => `(tactic| assumption)
local macro_rules | `(tactic| walk_at "u") => `(tactic| first | refine O1.neg ?_)
local macro_rules | `(tactic| walk_at "sz") => `(tactic| first | exact szle (by simp; omega) | exact szle (by simp) | exact szle (by omega) | exact szlt (by simp; omega) | exact szlt (by simp) | exact szlt (by omega))
local macro_rules | `(tactic| walk_at "ix") => `(tactic| first
  | refine Ix.cell rfl at0 ?_ | refine Ix.cell rfl at1 ?_ | refine Ix.cell rfl at2 ?_ | refine Ix.tup at0 ?_ | refine Ix.tup at1 ?_ | refine Ix.tup at2 ?_ | refine Ix.lst at0 ?_ | refine Ix.lst at1 ?_ | refine Ix.lst at2 ?_ | refine Ix.cell rfl (by walk_at "at") ?_ | refine Ix.lst (by walk_at "at") ?_ | refine Ix.tup (by walk_at "at") ?_)
local macro_rules | `(tactic| walk_at "at") => `(tactic| assumption)
local macro_rules | `(tactic| walk_at "cl") => `(tactic| first
  | refine Cl.int ?_ | refine Cl.abs ?_ | refine Cl.lenL ?_ | refine Cl.lenT ?_ | refine Cl.lenC rfl ?_ | refine Cl.listL ?_ | refine Cl.listT ?_ | refine Cl.tupleL ?_ | refine Cl.tupleT ?_ | refine Cl.max rfl ?_ | refine Cl.min rfl ?_ | refine Cl.gcd ?_ | refine Cl.boolI ?_)
local macro_rules | `(tactic| walk_at "tr") => `(tactic| first | refine Tr.bl ?_ | refine Tr.int ?_ | refine Tr.lst ?_)
local macro_rules | `(tactic| walk_at "sl") => `(tactic| first | refine Sl.lst ?_)
local macro_rules | `(tactic| walk_at "six") => `(tactic| refine ⟨_, _, _, _, rfl, rfl, rfl, (by first | rfl | walk_at "at"), ?_⟩)
local macro_rules | `(tactic| walk_at "app") => `(tactic| refine ⟨_, rfl, (by walk_at "sz"), ?_⟩)
local macro_rules | `(tactic| walk_at "disp") => `(tactic| first | refine ⟨[], rfl, sz0, ?_⟩ | refine ⟨[_], rfl, sz1, ?_⟩ | refine ⟨[_, _], rfl, sz2, ?_⟩ | refine ⟨[_, _, _], rfl, sz3, ?_⟩ | refine ⟨[_, _, _, _], rfl, sz4, ?_⟩ | refine ⟨[_, _, _, _, _], rfl, sz5, ?_⟩ | refine ⟨[_, _, _, _, _, _], rfl, sz6, ?_⟩ | refine ⟨[_, _, _, _, _, _, _], rfl, sz7, ?_⟩)
local macro_rules | `(tactic| walk_at "dispC") => `(tactic| first | refine ⟨sz0, ?_⟩ | refine ⟨sz1, ?_⟩ | refine ⟨sz2, ?_⟩ | refine ⟨sz3, ?_⟩)
local macro_rules | `(tactic| walk_at "n") => `(tactic| try dsimp only [List.set_cons_zero, List.set_cons_succ, List.set])

/-! ### ratios: what is known of the class -/
open RT
def Bd (k : Nat) (x : Int) : Prop := x.natAbs < 2 ^ k
theorem Bd.mono {a b : Nat} {x : Int} (h : Bd a x) (l : a ≤ b) : Bd b x := Nat.lt_of_lt_of_le h (Nat.pow_le_pow_right (by decide) l)
theorem mulB {i j : Int} (h : Bd 4000 i) (k : Bd 4000 j) : CMulX i j := mulx_ok (a := 4000) (b := 4000) h k (by decide)
theorem Bd.mul {a b : Nat} {x y : Int} (h : Bd a x) (k : Bd b y) : Bd (a + b) (x * y) := by
  show (x * y).natAbs < _
  rw [Int.natAbs_mul, Nat.pow_add]
  exact Nat.mul_lt_mul'' h k
theorem Bd.add {a b : Nat} {x y : Int} (h : Bd a x) (k : Bd b y) : Bd (max a b + 1) (x + y) := by
  have h1 := Bd.mono h (Nat.le_max_left a b)
  have h2 := Bd.mono k (Nat.le_max_right a b)
  have := Int.natAbs_add_le x y
  show (x + y).natAbs < _
  rw [Nat.pow_succ]
  unfold Bd at h1 h2
  omega
theorem Bd.neg {a : Nat} {x : Int} (h : Bd a x) : Bd a (-x) := by show (-x).natAbs < _; rw [Int.natAbs_neg]; exact h
theorem Bd.sub {a b : Nat} {x y : Int} (h : Bd a x) (k : Bd b y) : Bd (max a b + 1) (x - y) := by rw [Int.sub_eq_add_neg]; exact Bd.add h (Bd.neg k)
theorem Bd.abs {a : Nat} {x : Int} (h : Bd a x) : Bd a (x.natAbs : Int) := by show (x.natAbs : Int).natAbs < _; rw [Int.natAbs_natCast]; exact h
theorem Bd.le {a : Nat} {x y : Int} (h : Bd a x) (k : y.natAbs ≤ x.natAbs) : Bd a y := Nat.lt_of_le_of_lt k h
abbrev rat (C : Addr) (n d : Int) : D := .ins C ["top", "bottom"] [.int n, .int d]
def nu : D → Int
  | .int i => i
  | .ins _ _ (.int n :: _) => n
  | _ => 0
def de : D → Int
  | .ins _ _ (_ :: .int d :: _) => d
  | _ => 1
abbrev a0 (ds : List D) : D := ds.headD .non
abbrev a1 (ds : List D) : D := ds.tail.headD .non
def Ok (n d : Int) : Prop := 0 < d ∧ Bd 4000 n ∧ Bd 4000 d
def OkH (n d : Int) : Prop := 0 < d ∧ Bd 1900 n ∧ Bd 1900 d
theorem OkH.ok {n d : Int} (h : OkH n d) : Ok n d := ⟨h.1, h.2.1.mono (by decide), h.2.2.mono (by decide)⟩
def preH (C : Addr) : List D → Prop := fun ds => ∃ n d a b, ds = [rat C n d, rat C a b] ∧ Ok n d ∧ Ok a b ∧ OkH n d ∧ OkH a b
/-- one ratio; two ratios or a ratio and an int -/
def pre1 (C : Addr) : List D → Prop := fun ds => ∃ n d, ds = [rat C n d] ∧ Ok n d
def preI2 (C : Addr) : List D → Prop := fun ds => ∃ n d i, ds = [rat C n d, .int i] ∧ Ok n d ∧ Bd 4000 i
def preR2 (C : Addr) : List D → Prop := fun ds => ∃ n d a b, ds = [rat C n d, rat C a b] ∧ Ok n d ∧ Ok a b
def pre2 (C : Addr) : List D → Prop := fun ds => preR2 C ds ∨ preI2 C ds
/-- the ratio that stands for t over b -/
def isR (C : Addr) (t b : Int) (r : D) : Prop := ∃ p q, r = rat C p q ∧ Nrm t b p q
def postAdd (C : Addr) : List D → D → Prop := fun ds => isR C (nu (a0 ds) * de (a1 ds) + nu (a1 ds) * de (a0 ds)) (de (a0 ds) * de (a1 ds))
def postSub (C : Addr) : List D → D → Prop := fun ds => isR C (nu (a0 ds) * de (a1 ds) - nu (a1 ds) * de (a0 ds)) (de (a0 ds) * de (a1 ds))
def postRsub (C : Addr) : List D → D → Prop := fun ds => isR C (nu (a1 ds) * de (a0 ds) - nu (a0 ds)) (de (a0 ds))
def postMul (C : Addr) : List D → D → Prop := fun ds => isR C (nu (a0 ds) * nu (a1 ds)) (de (a0 ds) * de (a1 ds))
def postNeg (C : Addr) : List D → D → Prop := fun ds => isR C (-nu (a0 ds)) (de (a0 ds))
def postAbs (C : Addr) : List D → D → Prop := fun ds => isR C (nu (a0 ds)).natAbs (de (a0 ds))
def postOver (C : Addr) : List D → D → Prop := fun ds => isR C (nu (a0 ds) * de (a1 ds)) (de (a0 ds) * nu (a1 ds))
def isRat : D → Bool
  | .ins .. => true
  | _ => false
def postEq : List D → D → Prop := fun ds r => r = .bl (isRat (a1 ds) && (decide (nu (a0 ds) = nu (a1 ds)) && decide (de (a0 ds) = de (a1 ds))))
def postBool : List D → D → Prop := fun ds r => r = .bl (decide (nu (a0 ds) ≠ 0))
def sgn (x : Int) : Int := if x < 0 then -1 else if 0 < x then 1 else 0
def postSign : List D → D → Prop := fun ds r => r = .int (sgn (nu (a0 ds)))
def preI : List D → Prop := fun ds => ∃ t b : Int, ds = [.int t, .int b] ∧ b ≠ 0 ∧ Bd 8100 t ∧ Bd 8100 b
def preIX : List D → Prop := fun ds => ∃ t b : Int, ds = [.int t, .int b] ∧ Bd 8100 t ∧ Bd 8100 b
def postI : List D → List D → Prop := fun ds fs => ∃ p q, fs = [.int p, .int q] ∧ Nrm (nu (a0 ds)) (nu (a1 ds)) p q
def postIX : List D → List D → Prop := fun ds fs => postI ds fs ∧ nu (a1 ds) ≠ 0
def postOverX (C : Addr) : List D → D → Prop := fun ds r => postOver C ds r ∧ nu (a1 ds) ≠ 0
def excI (Z : Addr) : List D → Value → Prop := fun ds c => nu (a1 ds) = 0 ∧ c = .ref Z
def pre2O (C : Addr) : List D → Prop := fun ds => pre2 C ds ∧ nu (a1 ds) ≠ 0
structure RatT (K : PySem.W.Frag) (mg : Str → Option Value) (C : Addr) : Prop where
  mgR : mg "Ratio" = some (.ref C)
  cls : Cls K C
  nt : NoAttr K C "top"
  nb : NoAttr K C "bottom"
  gcd : mg "gcd" = some (.builtin "math.gcd")
  isc : IsC K C
  sf : PySem.W.selfFirst K C = true
  kRR : PySem.W.kitOne K (.ref C) (.ref C) = some true
  kIR : PySem.W.kitOne K (.type "int") (.ref C) = some false
  kII : PySem.W.kitOne K (.type "int") (.type "int") = some true
  kIB : PySem.W.kitOne K (.type "int") (.type "bool") = some false
  subI : PySem.W.subIn K (.type "int") (.ref C) = some false
  subC : PySem.W.subIn K (.ref C) (.type "int") = some false
  nfI : PySem.W.notFirst K C (.type "int") = true
  nfR : PySem.W.notFirst K C (.ref C) = true
  hne : PySem.W.findIn K (.ref C) "__ne__" = some (some (.builtin "object.__ne__"))
  hobj : PySem.W.subIn K (.ref C) (.type "object") = some true
  iA : ∃ fo, PySem.W.findIn K (.type "int") "__add__" = some fo
  iRA : ∃ fo, PySem.W.findIn K (.type "int") "__radd__" = some fo
  iS : ∃ fo, PySem.W.findIn K (.type "int") "__sub__" = some fo
  iRS : ∃ fo, PySem.W.findIn K (.type "int") "__rsub__" = some fo
  iM : ∃ fo, PySem.W.findIn K (.type "int") "__mul__" = some fo
  iRM : ∃ fo, PySem.W.findIn K (.type "int") "__rmul__" = some fo
theorem cdg {x t b : Int} (hb : b ≠ 0) (h : Bd 8100 b) : CDivA x ((Nat.gcd t.natAbs b.natAbs : Nat) : Int) := ⟨gcd_ne hb, by
  rw [Int.natAbs_natCast]; exact Nat.lt_of_le_of_lt (gcd_le hb) (Bd.mono (x := b) h (by decide))⟩
theorem cdgn {x t b : Int} (hb : b ≠ 0) (h : Bd 8100 b) : CDivA x (-((Nat.gcd t.natAbs b.natAbs : Nat) : Int)) := ⟨by have := gcd_ne (t := t) hb; omega, by
  rw [Int.natAbs_neg, Int.natAbs_natCast]; exact Nat.lt_of_le_of_lt (gcd_le hb) (Bd.mono (x := b) h (by decide))⟩
local macro_rules | `(tactic| walk_at "mul") => `(tactic| first | assumption | exact mulB (by assumption) (by assumption))
local macro_rules | `(tactic| walk_at "cl") => `(tactic| first
  | refine Cl.int ?_ | refine Cl.abs ?_ | refine Cl.lenL ?_ | refine Cl.lenT ?_ | refine Cl.lenC rfl ?_ | refine Cl.listL ?_ | refine Cl.listT ?_ | refine Cl.tupleL ?_ | refine Cl.tupleT ?_ | refine Cl.max rfl ?_ | refine Cl.min rfl ?_ | refine Cl.gcd ?_ | refine Cl.boolI ?_
  | refine Cl.isiIns (by assumption) (fun _ _ => clsv_ref) (by assumption) ?_ | refine Cl.isiInt (fun _ _ => clsv_ref) (by assumption) ?_ | refine Cl.isiInt (fun _ _ => clsv_ty) (by assumption) ?_)
theorem dn_add : PySem.dunder Operator.Add.info.2 = "__add__" := by decide +kernel
theorem dn_sub : PySem.dunder Operator.Sub.info.2 = "__sub__" := by decide +kernel
theorem dn_mul : PySem.dunder Operator.Mult.info.2 = "__mul__" := by decide +kernel
theorem dr_add : dunderR Operator.Add.info.2 = "__radd__" := by decide +kernel
theorem dr_sub : dunderR Operator.Sub.info.2 = "__rsub__" := by decide +kernel
theorem dr_mul : dunderR Operator.Mult.info.2 = "__rmul__" := by decide +kernel

section
variable {P : Program} {w : World} {K : PySem.W.Frag} {mg : Str → Option Value} {base : Heap} {C : Addr} {f : Addr} {fd : FuncData}
abbrev FI (K : PySem.W.Frag) (st : Stmt) (f : Addr) (fd : FuncData) : Prop := Fun K "__init__" "Ratio.__init__" st f fd ∨ ∃ dvs kws, FunD K "__init__" "Ratio.__init__" (defArgs st) (defBody st) (defScope st) dvs kws f fd
abbrev sInit : Stmt := inClass (top 14) 0
theorem scInit : FnScope ["self", "top", "bottom", "common"] ["self", "top", "bottom"] (defScope sInit) := ⟨rfl, rfl, rfl, by decide +kernel, rfl, by decide +kernel, by decide +kernel⟩
theorem ok_init (F : FI K sInit f fd) (B : Bl mg) (tR : RatT K mg C) : FnOk P w K mg base CX0 1 f fd ["self", "top", "bottom"] (spI K C ["top", "bottom"] preI postI) := by
  refine ok_I F scInit (fun ds ⟨t, b, e, _⟩ => by rw [e]; rfl) fun cdv Ar outer sh Hp0 xE Fr ds hr ⟨t, b, e, hb, h1, h2⟩ => ?_
  subst e
  have nd := scInit.nd
  show W _ _ _ _ _ [some (.c 0), some (.d (.int t)), some (.d (.int b)), none]
  refine W.cons ?_
  refine W1.iff ?_
  refine T.cmp ?_
  refine E.var 2 rfl ?_
  refine E.int ?_
  walk_at "o"
  refine ⟨_, rfl, ?_⟩
  refine ifF hb ?_
  refine W.nil ?_
  refine W.cons ?_
  refine W1.set 3 ?_ nd
  refine E.callG tR.gcd ?_
  refine A.cons ?_
  refine E.var 1 rfl ?_
  refine A.cons ?_
  refine E.var 2 rfl ?_
  refine A.nil ?_
  walk_at "cl"
  walk_at "n"
  refine W.cons ?_
  refine W1.iff ?_
  refine T.cmp ?_
  refine E.var 2 rfl ?_
  refine E.int ?_
  walk_at "o"
  refine ⟨_, rfl, ?_⟩
  refine ifd (fun h => ?_) (fun h => ?_)
  · have g1 : CDivA t (-((Nat.gcd t.natAbs b.natAbs : Nat) : Int)) := cdgn hb h2
    have g2 : CDivA b (-((Nat.gcd t.natAbs b.natAbs : Nat) : Int)) := cdgn hb h2
    refine W.cons ?_
    refine W1.set 3 ?_ nd
    refine E.un ?_
    refine E.var 3 rfl ?_
    walk_at "u"
    walk_at "n"
    refine W.nil ?_
    refine W.cons ?_
    refine W1.fldN ?_
    refine E.bin ?_
    refine E.var 1 rfl ?_
    refine E.var 3 rfl ?_
    walk_at "o"
    refine E.var 0 rfl ?_
    refine ⟨_, _, _, _, rfl, rfl, tR.cls, tR.nt, by decide, by simp, ?_⟩
    refine W.cons ?_
    refine W1.fldN ?_
    refine E.bin ?_
    refine E.var 2 rfl ?_
    refine E.var 3 rfl ?_
    walk_at "o"
    refine E.var 0 rfl ?_
    refine ⟨_, _, _, _, rfl, rfl, tR.cls, tR.nb, by decide, by simp, ?_⟩
    exact W.nil ⟨[.int _, .int _], rfl, _, _, rfl, nrm_neg h⟩
  · have g1 : CDivA t ((Nat.gcd t.natAbs b.natAbs : Nat) : Int) := cdg hb h2
    have g2 : CDivA b ((Nat.gcd t.natAbs b.natAbs : Nat) : Int) := cdg hb h2
    refine W.nil ?_
    refine W.cons ?_
    refine W1.fldN ?_
    refine E.bin ?_
    refine E.var 1 rfl ?_
    refine E.var 3 rfl ?_
    walk_at "o"
    refine E.var 0 rfl ?_
    refine ⟨_, _, _, _, rfl, rfl, tR.cls, tR.nt, by decide, by simp, ?_⟩
    refine W.cons ?_
    refine W1.fldN ?_
    refine E.bin ?_
    refine E.var 2 rfl ?_
    refine E.var 3 rfl ?_
    walk_at "o"
    refine E.var 0 rfl ?_
    refine ⟨_, _, _, _, rfl, rfl, tR.cls, tR.nb, by decide, by simp, ?_⟩
    exact W.nil ⟨[.int _, .int _], rfl, _, _, rfl, nrm_pos (t := t) (b := b) (by omega)⟩
/-- the error for a bottom that is zero -/
structure ZdT (K : PySem.W.Frag) (mg : Str → Option Value) (Z : Addr) : Prop where
  mgZ : mg "ZeroDivisor" = some (.ref Z)
  kZ : PySem.W.keepIn K (.ref Z) = true
  ex : PySem.W.excIn K Z [.type "ValueError", .type "Exception", .type "BaseException", .type "object"] "ValueError.__new__" = true
  r1 : PySem.W.subIn K (.ref Z) (.type "BaseException") = some true
  r2 : PySem.W.typeIn K (.ref Z) = some (.type "type")
theorem ok_initX {Z : Addr} (F : FI K sInit f fd) (B : Bl mg) (tR : RatT K mg C) (TZ : ZdT K mg Z) : FnOk P w K mg base (L2.CX P w) 1 f fd ["self", "top", "bottom"] (spIX K C ["top", "bottom"] preIX postIX (excI Z)) := by
  refine ok_IX F scInit (fun ds ⟨t, b, e, _⟩ => by rw [e]; rfl) fun cdv Ar outer sh Hp0 xE Fr ds hr ⟨t, b, e, h1, h2⟩ tk => ?_
  subst e
  have nd := scInit.nd
  show W _ _ _ _ _ [some (.c 0), some (.d (.int t)), some (.d (.int b)), none]
  refine W.cons ?_
  refine W1.iff ?_
  refine T.cmp ?_
  refine E.var 2 rfl ?_
  refine E.int ?_
  walk_at "o"
  refine ⟨_, rfl, ?_⟩
  refine ifd (fun hb => ?_) (fun hb => ?_)
  · exact W.cons (W1.raise rfl tk PySem.F.excBase_ValueError TZ.ex TZ.mgZ TZ.kZ (raises_own TZ.r1 TZ.r2) ⟨hb, rfl⟩)
  refine W.nil ?_
  refine W.cons ?_
  refine W1.set 3 ?_ nd
  refine E.callG tR.gcd ?_
  refine A.cons ?_
  refine E.var 1 rfl ?_
  refine A.cons ?_
  refine E.var 2 rfl ?_
  refine A.nil ?_
  walk_at "cl"
  walk_at "n"
  refine W.cons ?_
  refine W1.iff ?_
  refine T.cmp ?_
  refine E.var 2 rfl ?_
  refine E.int ?_
  walk_at "o"
  refine ⟨_, rfl, ?_⟩
  refine ifd (fun h => ?_) (fun h => ?_)
  · have g1 : CDivA t (-((Nat.gcd t.natAbs b.natAbs : Nat) : Int)) := cdgn hb h2
    have g2 : CDivA b (-((Nat.gcd t.natAbs b.natAbs : Nat) : Int)) := cdgn hb h2
    refine W.cons ?_
    refine W1.set 3 ?_ nd
    refine E.un ?_
    refine E.var 3 rfl ?_
    walk_at "u"
    walk_at "n"
    refine W.nil ?_
    refine W.cons ?_
    refine W1.fldN ?_
    refine E.bin ?_
    refine E.var 1 rfl ?_
    refine E.var 3 rfl ?_
    walk_at "o"
    refine E.var 0 rfl ?_
    refine ⟨_, _, _, _, rfl, rfl, tR.cls, tR.nt, by decide, by simp, ?_⟩
    refine W.cons ?_
    refine W1.fldN ?_
    refine E.bin ?_
    refine E.var 2 rfl ?_
    refine E.var 3 rfl ?_
    walk_at "o"
    refine E.var 0 rfl ?_
    refine ⟨_, _, _, _, rfl, rfl, tR.cls, tR.nb, by decide, by simp, ?_⟩
    exact W.nil ⟨[.int _, .int _], rfl, ⟨_, _, rfl, nrm_neg h⟩, hb⟩
  · have g1 : CDivA t ((Nat.gcd t.natAbs b.natAbs : Nat) : Int) := cdg hb h2
    have g2 : CDivA b ((Nat.gcd t.natAbs b.natAbs : Nat) : Int) := cdg hb h2
    refine W.nil ?_
    refine W.cons ?_
    refine W1.fldN ?_
    refine E.bin ?_
    refine E.var 1 rfl ?_
    refine E.var 3 rfl ?_
    walk_at "o"
    refine E.var 0 rfl ?_
    refine ⟨_, _, _, _, rfl, rfl, tR.cls, tR.nt, by decide, by simp, ?_⟩
    refine W.cons ?_
    refine W1.fldN ?_
    refine E.bin ?_
    refine E.var 2 rfl ?_
    refine E.var 3 rfl ?_
    walk_at "o"
    refine E.var 0 rfl ?_
    refine ⟨_, _, _, _, rfl, rfl, tR.cls, tR.nb, by decide, by simp, ?_⟩
    exact W.nil ⟨[.int _, .int _], rfl, ⟨_, _, rfl, nrm_pos (t := t) (b := b) (by omega)⟩, hb⟩
/-- what all methods lean on -/
structure RatB (P : Program) (w : World) (K : PySem.W.Frag) (mg : Str → Option Value) (base : Heap) (C : Addr) : Prop where
  B : Bl mg
  tR : RatT K mg C
  MI : IOk P w K mg base CX0 C 1 [] (spI K C ["top", "bottom"] preI postI)
abbrev sAdd : Stmt := inClass (top 14) 1
theorem scAdd : FnScope ["self", "other"] ["self", "other"] (defScope sAdd) := ⟨rfl, rfl, rfl, by decide +kernel, rfl, by decide +kernel, by decide +kernel⟩
theorem ok_add (F : Dm K C "__add__" "Ratio.__add__" sAdd ["self", "other"] f fd) (RB : RatB P w K mg base C) : FnOk P w K mg base CX0 3 f fd ["self", "other"] (spF K (pre2 C) (postAdd C)) := by
  obtain ⟨B, tR, MI⟩ := RB
  refine ok_F F.fn scAdd (fun ds h => by rcases h with ⟨_, _, _, _, e, _⟩ | ⟨_, _, _, e, _⟩ <;> rw [e] <;> rfl) fun cdv Ar outer sh Hp0 xE Fr ds hr hm hp => ?_
  have nd := scAdd.nd
  have q1 := tR.isc
  have q2 := tR.kRR
  have q3 := tR.kIR
  have q4 := tR.kII
  rcases hp with ⟨n, d, a, b, e, ⟨hd, n1, d1⟩, ⟨hb, n2, d2⟩⟩ | ⟨n, d, i, e, ⟨hd, n1, d1⟩, n2⟩
  · subst e
    show W _ _ _ _ _ [some (.d (rat C n d)), some (.d (rat C a b))]
    refine W.cons ?_
    refine W1.iff ?_
    refine T.truth ?_
    refine E.callB B.isinstance bt_isinstance ?_
    refine A.cons ?_
    refine E.var 1 rfl ?_
    refine A.cons ?_
    refine E.globR tR.mgR ?_
    refine A.nil ?_
    walk_at "cl"
    walk_at "tr"
    refine iteT ?_
    refine W.cons ?_
    refine W1.ret ?_
    refine E.dmake MI tR.mgR (hr.mono (by decide)) ?_
    refine A.cons ?_
    refine E.bin ?_
    refine E.bin ?_
    refine E.fld ?_
    refine E.var 0 rfl ?_
    refine ⟨_, _, _, _, rfl, tR.cls, tR.nt, rfl, ?_⟩
    refine E.fld ?_
    refine E.var 1 rfl ?_
    refine ⟨_, _, _, _, rfl, tR.cls, tR.nb, rfl, ?_⟩
    walk_at "o"
    refine E.bin ?_
    refine E.fld ?_
    refine E.var 1 rfl ?_
    refine ⟨_, _, _, _, rfl, tR.cls, tR.nt, rfl, ?_⟩
    refine E.fld ?_
    refine E.var 0 rfl ?_
    refine ⟨_, _, _, _, rfl, tR.cls, tR.nb, rfl, ?_⟩
    walk_at "o"
    walk_at "o"
    refine A.cons ?_
    refine E.bin ?_
    refine E.fld ?_
    refine E.var 0 rfl ?_
    refine ⟨_, _, _, _, rfl, tR.cls, tR.nb, rfl, ?_⟩
    refine E.fld ?_
    refine E.var 1 rfl ?_
    refine ⟨_, _, _, _, rfl, tR.cls, tR.nb, rfl, ?_⟩
    walk_at "o"
    refine A.nil ?_
    refine ⟨[.int _, .int _], rfl, ⟨_, _, rfl, Int.mul_ne_zero (by omega) (by omega), (Bd.add (Bd.mul n1 d2) (Bd.mul n2 d1)).mono (by decide), (Bd.mul d1 d2).mono (by decide)⟩, ?_⟩
    rintro fs ⟨p, q, rfl, hn⟩
    exact ⟨_, rfl, p, q, rfl, hn⟩
  · subst e
    show W _ _ _ _ _ [some (.d (rat C n d)), some (.d (.int i))]
    refine W.cons ?_
    refine W1.iff ?_
    refine T.truth ?_
    refine E.callB B.isinstance bt_isinstance ?_
    refine A.cons ?_
    refine E.var 1 rfl ?_
    refine A.cons ?_
    refine E.globR tR.mgR ?_
    refine A.nil ?_
    walk_at "cl"
    walk_at "tr"
    refine iteF (W.nil ?_)
    refine W.cons ?_
    refine W1.iff ?_
    refine T.truth ?_
    refine E.callB B.isinstance bt_isinstance ?_
    refine A.cons ?_
    refine E.var 1 rfl ?_
    refine A.cons ?_
    refine E.bty B.int bt_int ?_
    refine A.nil ?_
    walk_at "cl"
    walk_at "tr"
    refine iteT ?_
    refine W.cons ?_
    refine W1.ret ?_
    refine E.dmake MI tR.mgR (hr.mono (by decide)) ?_
    refine A.cons ?_
    refine E.bin ?_
    refine E.fld ?_
    refine E.var 0 rfl ?_
    refine ⟨_, _, _, _, rfl, tR.cls, tR.nt, rfl, ?_⟩
    refine E.bin ?_
    refine E.var 1 rfl ?_
    refine E.fld ?_
    refine E.var 0 rfl ?_
    refine ⟨_, _, _, _, rfl, tR.cls, tR.nb, rfl, ?_⟩
    walk_at "o"
    walk_at "o"
    refine A.cons ?_
    refine E.fld ?_
    refine E.var 0 rfl ?_
    refine ⟨_, _, _, _, rfl, tR.cls, tR.nb, rfl, ?_⟩
    refine A.nil ?_
    refine ⟨[.int _, .int _], rfl, ⟨_, _, rfl, by omega, (Bd.add n1 (Bd.mul n2 d1)).mono (by decide), d1.mono (by decide)⟩, ?_⟩
    rintro fs ⟨p, q, rfl, hn⟩
    refine ⟨_, rfl, p, q, rfl, ?_⟩
    show Nrm (n * 1 + i * d) (d * 1) p q
    rw [Int.mul_one, Int.mul_one]; exact hn
abbrev sSub : Stmt := inClass (top 14) 3
theorem scSub : FnScope ["self", "other"] ["self", "other"] (defScope sSub) := ⟨rfl, rfl, rfl, by decide +kernel, rfl, by decide +kernel, by decide +kernel⟩
theorem ok_sub (F : Dm K C "__sub__" "Ratio.__sub__" sSub ["self", "other"] f fd) (RB : RatB P w K mg base C) : FnOk P w K mg base CX0 3 f fd ["self", "other"] (spF K (pre2 C) (postSub C)) := by
  obtain ⟨B, tR, MI⟩ := RB
  refine ok_F F.fn scSub (fun ds h => by rcases h with ⟨_, _, _, _, e, _⟩ | ⟨_, _, _, e, _⟩ <;> rw [e] <;> rfl) fun cdv Ar outer sh Hp0 xE Fr ds hr hm hp => ?_
  have nd := scSub.nd
  have q1 := tR.isc
  have q2 := tR.kRR
  have q3 := tR.kIR
  have q4 := tR.kII
  rcases hp with ⟨n, d, a, b, e, ⟨hd, n1, d1⟩, ⟨hb, n2, d2⟩⟩ | ⟨n, d, i, e, ⟨hd, n1, d1⟩, n2⟩
  · subst e
    show W _ _ _ _ _ [some (.d (rat C n d)), some (.d (rat C a b))]
    refine W.cons ?_
    refine W1.iff ?_
    refine T.truth ?_
    refine E.callB B.isinstance bt_isinstance ?_
    refine A.cons ?_
    refine E.var 1 rfl ?_
    refine A.cons ?_
    refine E.globR tR.mgR ?_
    refine A.nil ?_
    walk_at "cl"
    walk_at "tr"
    refine iteT ?_
    refine W.cons ?_
    refine W1.ret ?_
    refine E.dmake MI tR.mgR (hr.mono (by decide)) ?_
    refine A.cons ?_
    refine E.bin ?_
    refine E.bin ?_
    refine E.fld ?_
    refine E.var 0 rfl ?_
    refine ⟨_, _, _, _, rfl, tR.cls, tR.nt, rfl, ?_⟩
    refine E.fld ?_
    refine E.var 1 rfl ?_
    refine ⟨_, _, _, _, rfl, tR.cls, tR.nb, rfl, ?_⟩
    walk_at "o"
    refine E.bin ?_
    refine E.fld ?_
    refine E.var 1 rfl ?_
    refine ⟨_, _, _, _, rfl, tR.cls, tR.nt, rfl, ?_⟩
    refine E.fld ?_
    refine E.var 0 rfl ?_
    refine ⟨_, _, _, _, rfl, tR.cls, tR.nb, rfl, ?_⟩
    walk_at "o"
    walk_at "o"
    refine A.cons ?_
    refine E.bin ?_
    refine E.fld ?_
    refine E.var 0 rfl ?_
    refine ⟨_, _, _, _, rfl, tR.cls, tR.nb, rfl, ?_⟩
    refine E.fld ?_
    refine E.var 1 rfl ?_
    refine ⟨_, _, _, _, rfl, tR.cls, tR.nb, rfl, ?_⟩
    walk_at "o"
    refine A.nil ?_
    refine ⟨[.int _, .int _], rfl, ⟨_, _, rfl, Int.mul_ne_zero (by omega) (by omega), (Bd.sub (Bd.mul n1 d2) (Bd.mul n2 d1)).mono (by decide), (Bd.mul d1 d2).mono (by decide)⟩, ?_⟩
    rintro fs ⟨p, q, rfl, hn⟩
    exact ⟨_, rfl, p, q, rfl, hn⟩
  · subst e
    show W _ _ _ _ _ [some (.d (rat C n d)), some (.d (.int i))]
    refine W.cons ?_
    refine W1.iff ?_
    refine T.truth ?_
    refine E.callB B.isinstance bt_isinstance ?_
    refine A.cons ?_
    refine E.var 1 rfl ?_
    refine A.cons ?_
    refine E.globR tR.mgR ?_
    refine A.nil ?_
    walk_at "cl"
    walk_at "tr"
    refine iteF (W.nil ?_)
    refine W.cons ?_
    refine W1.iff ?_
    refine T.truth ?_
    refine E.callB B.isinstance bt_isinstance ?_
    refine A.cons ?_
    refine E.var 1 rfl ?_
    refine A.cons ?_
    refine E.bty B.int bt_int ?_
    refine A.nil ?_
    walk_at "cl"
    walk_at "tr"
    refine iteT ?_
    refine W.cons ?_
    refine W1.ret ?_
    refine E.dmake MI tR.mgR (hr.mono (by decide)) ?_
    refine A.cons ?_
    refine E.bin ?_
    refine E.fld ?_
    refine E.var 0 rfl ?_
    refine ⟨_, _, _, _, rfl, tR.cls, tR.nt, rfl, ?_⟩
    refine E.bin ?_
    refine E.var 1 rfl ?_
    refine E.fld ?_
    refine E.var 0 rfl ?_
    refine ⟨_, _, _, _, rfl, tR.cls, tR.nb, rfl, ?_⟩
    walk_at "o"
    walk_at "o"
    refine A.cons ?_
    refine E.fld ?_
    refine E.var 0 rfl ?_
    refine ⟨_, _, _, _, rfl, tR.cls, tR.nb, rfl, ?_⟩
    refine A.nil ?_
    refine ⟨[.int _, .int _], rfl, ⟨_, _, rfl, by omega, (Bd.sub n1 (Bd.mul n2 d1)).mono (by decide), d1.mono (by decide)⟩, ?_⟩
    rintro fs ⟨p, q, rfl, hn⟩
    refine ⟨_, rfl, p, q, rfl, ?_⟩
    show Nrm (n * 1 - i * d) (d * 1) p q
    rw [Int.mul_one, Int.mul_one]; exact hn
abbrev sMul : Stmt := inClass (top 14) 5
theorem scMul : FnScope ["self", "other"] ["self", "other"] (defScope sMul) := ⟨rfl, rfl, rfl, by decide +kernel, rfl, by decide +kernel, by decide +kernel⟩
theorem ok_mul (F : Dm K C "__mul__" "Ratio.__mul__" sMul ["self", "other"] f fd) (RB : RatB P w K mg base C) : FnOk P w K mg base CX0 3 f fd ["self", "other"] (spF K (pre2 C) (postMul C)) := by
  obtain ⟨B, tR, MI⟩ := RB
  refine ok_F F.fn scMul (fun ds h => by rcases h with ⟨_, _, _, _, e, _⟩ | ⟨_, _, _, e, _⟩ <;> rw [e] <;> rfl) fun cdv Ar outer sh Hp0 xE Fr ds hr hm hp => ?_
  have nd := scMul.nd
  have q1 := tR.isc
  have q2 := tR.kRR
  have q3 := tR.kIR
  have q4 := tR.kII
  rcases hp with ⟨n, d, a, b, e, ⟨hd, n1, d1⟩, ⟨hb, n2, d2⟩⟩ | ⟨n, d, i, e, ⟨hd, n1, d1⟩, n2⟩
  · subst e
    show W _ _ _ _ _ [some (.d (rat C n d)), some (.d (rat C a b))]
    refine W.cons ?_
    refine W1.iff ?_
    refine T.truth ?_
    refine E.callB B.isinstance bt_isinstance ?_
    refine A.cons ?_
    refine E.var 1 rfl ?_
    refine A.cons ?_
    refine E.globR tR.mgR ?_
    refine A.nil ?_
    walk_at "cl"
    walk_at "tr"
    refine iteT ?_
    refine W.cons ?_
    refine W1.ret ?_
    refine E.dmake MI tR.mgR (hr.mono (by decide)) ?_
    refine A.cons ?_
    refine E.bin ?_
    refine E.fld ?_
    refine E.var 0 rfl ?_
    refine ⟨_, _, _, _, rfl, tR.cls, tR.nt, rfl, ?_⟩
    refine E.fld ?_
    refine E.var 1 rfl ?_
    refine ⟨_, _, _, _, rfl, tR.cls, tR.nt, rfl, ?_⟩
    walk_at "o"
    refine A.cons ?_
    refine E.bin ?_
    refine E.fld ?_
    refine E.var 0 rfl ?_
    refine ⟨_, _, _, _, rfl, tR.cls, tR.nb, rfl, ?_⟩
    refine E.fld ?_
    refine E.var 1 rfl ?_
    refine ⟨_, _, _, _, rfl, tR.cls, tR.nb, rfl, ?_⟩
    walk_at "o"
    refine A.nil ?_
    refine ⟨[.int _, .int _], rfl, ⟨_, _, rfl, Int.mul_ne_zero (by omega) (by omega), (Bd.mul n1 n2).mono (by decide), (Bd.mul d1 d2).mono (by decide)⟩, ?_⟩
    rintro fs ⟨p, q, rfl, hn⟩
    exact ⟨_, rfl, p, q, rfl, hn⟩
  · subst e
    show W _ _ _ _ _ [some (.d (rat C n d)), some (.d (.int i))]
    refine W.cons ?_
    refine W1.iff ?_
    refine T.truth ?_
    refine E.callB B.isinstance bt_isinstance ?_
    refine A.cons ?_
    refine E.var 1 rfl ?_
    refine A.cons ?_
    refine E.globR tR.mgR ?_
    refine A.nil ?_
    walk_at "cl"
    walk_at "tr"
    refine iteF (W.nil ?_)
    refine W.cons ?_
    refine W1.iff ?_
    refine T.truth ?_
    refine E.callB B.isinstance bt_isinstance ?_
    refine A.cons ?_
    refine E.var 1 rfl ?_
    refine A.cons ?_
    refine E.bty B.int bt_int ?_
    refine A.nil ?_
    walk_at "cl"
    walk_at "tr"
    refine iteT ?_
    refine W.cons ?_
    refine W1.ret ?_
    refine E.dmake MI tR.mgR (hr.mono (by decide)) ?_
    refine A.cons ?_
    refine E.bin ?_
    refine E.fld ?_
    refine E.var 0 rfl ?_
    refine ⟨_, _, _, _, rfl, tR.cls, tR.nt, rfl, ?_⟩
    refine E.var 1 rfl ?_
    walk_at "o"
    refine A.cons ?_
    refine E.fld ?_
    refine E.var 0 rfl ?_
    refine ⟨_, _, _, _, rfl, tR.cls, tR.nb, rfl, ?_⟩
    refine A.nil ?_
    refine ⟨[.int _, .int _], rfl, ⟨_, _, rfl, by omega, (Bd.mul n1 n2).mono (by decide), d1.mono (by decide)⟩, ?_⟩
    rintro fs ⟨p, q, rfl, hn⟩
    refine ⟨_, rfl, p, q, rfl, ?_⟩
    show Nrm (n * i) (d * 1) p q
    rw [Int.mul_one]; exact hn
abbrev sNeg : Stmt := inClass (top 14) 7
theorem scNeg : FnScope ["self"] ["self"] (defScope sNeg) := ⟨rfl, rfl, rfl, by decide +kernel, rfl, by decide +kernel, by decide +kernel⟩
theorem ok_neg (F : Dm K C "__neg__" "Ratio.__neg__" sNeg ["self"] f fd) (RB : RatB P w K mg base C) : FnOk P w K mg base CX0 3 f fd ["self"] (spF K (pre1 C) (postNeg C)) := by
  obtain ⟨B, tR, MI⟩ := RB
  refine ok_F F.fn scNeg (fun ds h => by obtain ⟨_, _, e, _⟩ := h; rw [e]; rfl) fun cdv Ar outer sh Hp0 xE Fr ds hr hm ⟨n, d, e, hd, n1, d1⟩ => ?_
  have nd := scNeg.nd
  subst e
  show W _ _ _ _ _ [some (.d (rat C n d))]
  refine W.cons ?_
  refine W1.ret ?_
  refine E.dmake MI tR.mgR (hr.mono (by decide)) ?_
  refine A.cons ?_
  refine E.un ?_
  refine E.fld ?_
  refine E.var 0 rfl ?_
  refine ⟨_, _, _, _, rfl, tR.cls, tR.nt, rfl, ?_⟩
  walk_at "u"
  refine A.cons ?_
  refine E.fld ?_
  refine E.var 0 rfl ?_
  refine ⟨_, _, _, _, rfl, tR.cls, tR.nb, rfl, ?_⟩
  refine A.nil ?_
  refine ⟨[.int _, .int _], rfl, ⟨_, _, rfl, by omega, (Bd.neg n1).mono (by decide), d1.mono (by decide)⟩, ?_⟩
  rintro fs ⟨p, q, rfl, hn⟩
  exact ⟨_, rfl, p, q, rfl, hn⟩
abbrev sAbs : Stmt := inClass (top 14) 8
theorem scAbs : FnScope ["self"] ["self"] (defScope sAbs) := ⟨rfl, rfl, rfl, by decide +kernel, rfl, by decide +kernel, by decide +kernel⟩
theorem ok_abs (F : Dm K C "__abs__" "Ratio.__abs__" sAbs ["self"] f fd) (RB : RatB P w K mg base C) : FnOk P w K mg base CX0 3 f fd ["self"] (spF K (pre1 C) (postAbs C)) := by
  obtain ⟨B, tR, MI⟩ := RB
  refine ok_F F.fn scAbs (fun ds h => by obtain ⟨_, _, e, _⟩ := h; rw [e]; rfl) fun cdv Ar outer sh Hp0 xE Fr ds hr hm ⟨n, d, e, hd, n1, d1⟩ => ?_
  have nd := scAbs.nd
  subst e
  show W _ _ _ _ _ [some (.d (rat C n d))]
  refine W.cons ?_
  refine W1.ret ?_
  refine E.dmake MI tR.mgR (hr.mono (by decide)) ?_
  refine A.cons ?_
  refine E.callB B.abs bt_abs ?_
  refine A.cons ?_
  refine E.fld ?_
  refine E.var 0 rfl ?_
  refine ⟨_, _, _, _, rfl, tR.cls, tR.nt, rfl, ?_⟩
  refine A.nil ?_
  walk_at "cl"
  refine A.cons ?_
  refine E.fld ?_
  refine E.var 0 rfl ?_
  refine ⟨_, _, _, _, rfl, tR.cls, tR.nb, rfl, ?_⟩
  refine A.nil ?_
  refine ⟨[.int _, .int _], rfl, ⟨_, _, rfl, by omega, (Bd.abs n1).mono (by decide), d1.mono (by decide)⟩, ?_⟩
  rintro fs ⟨p, q, rfl, hn⟩
  exact ⟨_, rfl, p, q, rfl, hn⟩
abbrev sRadd : Stmt := inClass (top 14) 2
theorem scRadd : FnScope ["self", "other"] ["self", "other"] (defScope sRadd) := ⟨rfl, rfl, rfl, by decide +kernel, rfl, by decide +kernel, by decide +kernel⟩
theorem ok_radd (F : Dm K C "__radd__" "Ratio.__radd__" sRadd ["self", "other"] f fd) (RB : RatB P w K mg base C) (MAdd : MOk P w K mg base CX0 C "__add__" 3 (spF K (pre2 C) (postAdd C))) : FnOk P w K mg base CX0 4 f fd ["self", "other"] (spF K (preI2 C) (postAdd C)) := by
  obtain ⟨B, tR, MI⟩ := RB
  have MRadd : MOk P w K mg base CX0 C "__radd__" 0 (fun _ _ _ _ => False) := F.ok ⟨fun _ _ _ _ h => h.elim, fun _ _ _ _ _ _ _ _ _ _ _ _ _ h => h.elim⟩
  refine ok_F F.fn scRadd (fun ds h => by obtain ⟨_, _, _, e, _⟩ := h; rw [e]; rfl) fun cdv Ar outer sh Hp0 xE Fr ds hr hm ⟨n, d, i, e, ok, n2⟩ => ?_
  have nd := scRadd.nd
  subst e
  show W _ _ _ _ _ [some (.d (rat C n d)), some (.d (.int i))]
  refine W.cons ?_
  refine W1.ret ?_
  refine E.bin ?_
  refine E.var 0 rfl ?_
  refine E.var 1 rfl ?_
  exact O2.dI tR.sf dn_add dr_add MAdd MRadd (hr.mono (by decide)) tR.iA tR.iRA tR.subI (.inr ⟨_, _, _, rfl, ok, n2⟩) fun d hd => ⟨_, rfl, hd⟩
abbrev sRmul : Stmt := inClass (top 14) 6
theorem scRmul : FnScope ["self", "other"] ["self", "other"] (defScope sRmul) := ⟨rfl, rfl, rfl, by decide +kernel, rfl, by decide +kernel, by decide +kernel⟩
theorem ok_rmul (F : Dm K C "__rmul__" "Ratio.__rmul__" sRmul ["self", "other"] f fd) (RB : RatB P w K mg base C) (MMul : MOk P w K mg base CX0 C "__mul__" 3 (spF K (pre2 C) (postMul C))) : FnOk P w K mg base CX0 4 f fd ["self", "other"] (spF K (preI2 C) (postMul C)) := by
  obtain ⟨B, tR, MI⟩ := RB
  have MRmul : MOk P w K mg base CX0 C "__rmul__" 0 (fun _ _ _ _ => False) := F.ok ⟨fun _ _ _ _ h => h.elim, fun _ _ _ _ _ _ _ _ _ _ _ _ _ h => h.elim⟩
  refine ok_F F.fn scRmul (fun ds h => by obtain ⟨_, _, _, e, _⟩ := h; rw [e]; rfl) fun cdv Ar outer sh Hp0 xE Fr ds hr hm ⟨n, d, i, e, ok, n2⟩ => ?_
  have nd := scRmul.nd
  subst e
  show W _ _ _ _ _ [some (.d (rat C n d)), some (.d (.int i))]
  refine W.cons ?_
  refine W1.ret ?_
  refine E.bin ?_
  refine E.var 0 rfl ?_
  refine E.var 1 rfl ?_
  exact O2.dI tR.sf dn_mul dr_mul MMul MRmul (hr.mono (by decide)) tR.iM tR.iRM tR.subI (.inr ⟨_, _, _, rfl, ok, n2⟩) fun d hd => ⟨_, rfl, hd⟩
abbrev sRsub : Stmt := inClass (top 14) 4
theorem scRsub : FnScope ["self", "other"] ["self", "other"] (defScope sRsub) := ⟨rfl, rfl, rfl, by decide +kernel, rfl, by decide +kernel, by decide +kernel⟩
theorem ok_rsub {sp2 : Sp} {k2 : Nat} (F : Dm K C "__rsub__" "Ratio.__rsub__" sRsub ["self", "other"] f fd) (RB : RatB P w K mg base C) (MAdd : MOk P w K mg base CX0 C "__add__" 3 (spF K (pre2 C) (postAdd C))) (MNeg : MOk P w K mg base CX0 C "__neg__" 3 (spF K (pre1 C) (postNeg C))) (MRadd : MOk P w K mg base CX0 C "__radd__" k2 sp2) :
    FnOk P w K mg base CX0 4 f fd ["self", "other"] (spF K (preI2 C) (postRsub C)) := by
  obtain ⟨B, tR, MI⟩ := RB
  refine ok_F F.fn scRsub (fun ds h => by obtain ⟨_, _, _, e, _⟩ := h; rw [e]; rfl) fun cdv Ar outer sh Hp0 xE Fr ds hr hm ⟨n, d, i, e, ⟨hd, n1, d1⟩, n2⟩ => ?_
  have nd := scRsub.nd
  subst e
  show W _ _ _ _ _ [some (.d (rat C n d)), some (.d (.int i))]
  refine W.cons ?_
  refine W1.ret ?_
  refine E.bin ?_
  refine E.un ?_
  refine E.var 0 rfl ?_
  refine O1.dN MNeg (hr.mono (by decide)) ⟨_, _, rfl, hd, n1, d1⟩ ?_
  rintro r ⟨p, q, rfl, hn⟩
  have hn : Nrm (-n) d p q := hn
  have hl := hn.le (by omega)
  refine E.var 1 rfl ?_
  refine O2.dI tR.sf dn_add dr_add MAdd MRadd (hr.mono (by decide)) tR.iA tR.iRA tR.subI (.inr ⟨_, _, _, rfl, ⟨hn.1, (Bd.neg n1).le hl.1, d1.le hl.2⟩, n2⟩) ?_
  rintro r ⟨s, t, rfl, hm⟩
  have hm : Nrm (p * 1 + i * q) (q * 1) s t := hm
  refine ⟨_, rfl, s, t, rfl, ?_⟩
  show Nrm (i * d - n) d s t
  rw [Int.mul_one, Int.mul_one] at hm
  have := hn.1
  refine hm.conv (by omega) ?_
  have h2 := hn.2.1
  rw [Int.add_mul, h2, Int.sub_mul, Int.neg_mul, Int.mul_right_comm i q d]
  omega
abbrev sEq : Stmt := inClass (top 14) 9
theorem scEq : FnScope ["self", "other"] ["self", "other"] (defScope sEq) := ⟨rfl, rfl, rfl, by decide +kernel, rfl, by decide +kernel, by decide +kernel⟩
theorem ok_eq (F : Dm K C "__eq__" "Ratio.__eq__" sEq ["self", "other"] f fd) (B : Bl mg) (tR : RatT K mg C) : FnOk P w K mg base CX0 1 f fd ["self", "other"] (spF K (pre2 C) postEq) := by
  refine ok_F F.fn scEq (fun ds h => by rcases h with ⟨_, _, _, _, e, _⟩ | ⟨_, _, _, e, _⟩ <;> rw [e] <;> rfl) fun cdv Ar outer sh Hp0 xE Fr ds hr hm hp => ?_
  have nd := scEq.nd
  have q1 := tR.isc
  have q2 := tR.kRR
  have q3 := tR.kIR
  have q4 := tR.kII
  rcases hp with ⟨n, d, a, b, e, ⟨hd, n1, d1⟩, ⟨hb, n2, d2⟩⟩ | ⟨n, d, i, e, ⟨hd, n1, d1⟩, n2⟩
  · subst e
    show W _ _ _ _ _ [some (.d (rat C n d)), some (.d (rat C a b))]
    refine W.cons ?_
    refine W1.ret ?_
    refine E.and ?_
    refine E.callB B.isinstance bt_isinstance ?_
    refine A.cons ?_
    refine E.var 1 rfl ?_
    refine A.cons ?_
    refine E.globR tR.mgR ?_
    refine A.nil ?_
    walk_at "cl"
    refine ⟨_, rfl, ?_⟩
    refine iteT ?_
    refine E.and ?_
    refine E.cmp ?_
    refine E.fld ?_
    refine E.var 0 rfl ?_
    refine ⟨_, _, _, _, rfl, tR.cls, tR.nt, rfl, ?_⟩
    refine E.fld ?_
    refine E.var 1 rfl ?_
    refine ⟨_, _, _, _, rfl, tR.cls, tR.nt, rfl, ?_⟩
    walk_at "o"
    refine ⟨_, rfl, ?_⟩
    refine ifd (fun h1 => ?_) (fun h1 => ?_)
    · skip -- 86.2 of 2: return isinstance(other, Ratio) and self.top == other.top and (self.bottom == other.bottom)
      refine E.one ?_
      refine E.cmp ?_
      refine E.fld ?_
      refine E.var 0 rfl ?_
      refine ⟨_, _, _, _, rfl, tR.cls, tR.nb, rfl, ?_⟩
      refine E.fld ?_
      refine E.var 1 rfl ?_
      refine ⟨_, _, _, _, rfl, tR.cls, tR.nb, rfl, ?_⟩
      walk_at "o"
      exact ⟨_, rfl, by show D.bl _ = D.bl (true && (decide (n = a) && decide (d = b))); rw [decide_eq_true h1]; rfl⟩
    · exact ⟨_, rfl, by show D.bl _ = D.bl (true && (decide (n = a) && decide (d = b))); rw [decide_eq_false h1]; rfl⟩
  · subst e
    show W _ _ _ _ _ [some (.d (rat C n d)), some (.d (.int i))]
    refine W.cons ?_
    refine W1.ret ?_
    refine E.and ?_
    refine E.callB B.isinstance bt_isinstance ?_
    refine A.cons ?_
    refine E.var 1 rfl ?_
    refine A.cons ?_
    refine E.globR tR.mgR ?_
    refine A.nil ?_
    walk_at "cl"
    refine ⟨_, rfl, ?_⟩
    exact iteF ⟨_, rfl, rfl⟩
abbrev sBool : Stmt := inClass (top 14) 10
theorem scBool : FnScope ["self"] ["self"] (defScope sBool) := ⟨rfl, rfl, rfl, by decide +kernel, rfl, by decide +kernel, by decide +kernel⟩
theorem ok_bool (F : Dm K C "__bool__" "Ratio.__bool__" sBool ["self"] f fd) (B : Bl mg) (tR : RatT K mg C) : FnOk P w K mg base CX0 1 f fd ["self"] (spF K (pre1 C) postBool) := by
  refine ok_F F.fn scBool (fun ds h => by obtain ⟨_, _, e, _⟩ := h; rw [e]; rfl) fun cdv Ar outer sh Hp0 xE Fr ds hr hm ⟨n, d, e, ok⟩ => ?_
  have nd := scBool.nd
  subst e
  show W _ _ _ _ _ [some (.d (rat C n d))]
  refine W.cons ?_
  refine W1.ret ?_
  refine E.callTy B.bool bt_bool ?_
  refine A.cons ?_
  refine E.fld ?_
  refine E.var 0 rfl ?_
  refine ⟨_, _, _, _, rfl, tR.cls, tR.nt, rfl, ?_⟩
  refine A.nil ?_
  walk_at "cl"
  exact ⟨_, rfl, rfl⟩
abbrev sSign : Stmt := inClass (top 14) 13
theorem scSign : FnScope ["self"] ["self"] (defScope sSign) := ⟨rfl, rfl, rfl, by decide +kernel, rfl, by decide +kernel, by decide +kernel⟩
theorem ok_sign (F : Dm K C "sign" "Ratio.sign" sSign ["self"] f fd) (B : Bl mg) (tR : RatT K mg C) : FnOk P w K mg base CX0 1 f fd ["self"] (spF K (pre1 C) postSign) := by
  refine ok_F F.fn scSign (fun ds h => by obtain ⟨_, _, e, _⟩ := h; rw [e]; rfl) fun cdv Ar outer sh Hp0 xE Fr ds hr hm ⟨n, d, e, ok⟩ => ?_
  have nd := scSign.nd
  subst e
  show W _ _ _ _ _ [some (.d (rat C n d))]
  have fin : ∀ z : Int, z = sgn n → ∃ x, R.d (D.int z) = R.d x ∧ postSign [rat C n d] x := fun z e => ⟨_, rfl, by rw [e]; rfl⟩
  refine W.cons ?_
  refine W1.iff ?_
  refine T.cmp ?_
  refine E.fld ?_
  refine E.var 0 rfl ?_
  refine ⟨_, _, _, _, rfl, tR.cls, tR.nt, rfl, ?_⟩
  refine E.int ?_
  walk_at "o"
  refine ⟨_, rfl, ?_⟩
  refine ifd (fun h => ?_) (fun h => ?_)
  · skip -- 101.0 of 0: return -1
    refine W.cons ?_
    refine W1.ret ?_
    refine E.un ?_
    refine E.int ?_
    walk_at "u"
    exact fin _ (by unfold sgn; rw [if_pos h])
  refine W.nil ?_
  refine W.cons ?_
  refine W1.iff ?_
  refine T.cmp ?_
  refine E.fld ?_
  refine E.var 0 rfl ?_
  refine ⟨_, _, _, _, rfl, tR.cls, tR.nt, rfl, ?_⟩
  refine E.int ?_
  walk_at "o"
  refine ⟨_, rfl, ?_⟩
  refine ifd (fun h2 => ?_) (fun h2 => ?_)
  · skip -- 103.0 of 0: return 1
    refine W.cons ?_
    refine W1.ret ?_
    refine E.int ?_
    exact fin _ (by unfold sgn; rw [if_neg h, if_pos h2])
  refine W.nil ?_
  refine W.cons ?_
  refine W1.ret ?_
  refine E.int ?_
  exact fin _ (by unfold sgn; rw [if_neg h, if_neg h2])
abbrev sOver : Stmt := inClass (top 14) 12
theorem scOver : FnScope ["self", "other"] ["self", "other"] (defScope sOver) := ⟨rfl, rfl, rfl, by decide +kernel, rfl, by decide +kernel, by decide +kernel⟩
theorem ok_over (F : Dm K C "over" "Ratio.over" sOver ["self", "other"] f fd) (RB : RatB P w K mg base C) : FnOk P w K mg base CX0 3 f fd ["self", "other"] (spF K (pre2O C) (postOver C)) := by
  obtain ⟨B, tR, MI⟩ := RB
  refine ok_F F.fn scOver (fun ds h => by rcases h.1 with ⟨_, _, _, _, e, _⟩ | ⟨_, _, _, e, _⟩ <;> rw [e] <;> rfl) fun cdv Ar outer sh Hp0 xE Fr ds hr hm hp => ?_
  have nd := scOver.nd
  have q1 := tR.isc
  have q2 := tR.kRR
  have q3 := tR.kIR
  have q4 := tR.kII
  obtain ⟨hp, hz⟩ := hp
  rcases hp with ⟨n, d, a, b, e, ⟨hd, n1, d1⟩, ⟨hb, n2, d2⟩⟩ | ⟨n, d, i, e, ⟨hd, n1, d1⟩, n2⟩
  · subst e
    show W _ _ _ _ _ [some (.d (rat C n d)), some (.d (rat C a b))]
    refine W.cons ?_
    refine W1.iff ?_
    refine T.truth ?_
    refine E.callB B.isinstance bt_isinstance ?_
    refine A.cons ?_
    refine E.var 1 rfl ?_
    refine A.cons ?_
    refine E.globR tR.mgR ?_
    refine A.nil ?_
    walk_at "cl"
    walk_at "tr"
    refine iteT ?_
    refine W.cons ?_
    refine W1.ret ?_
    refine E.dmake MI tR.mgR (hr.mono (by decide)) ?_
    refine A.cons ?_
    refine E.bin ?_
    refine E.fld ?_
    refine E.var 0 rfl ?_
    refine ⟨_, _, _, _, rfl, tR.cls, tR.nt, rfl, ?_⟩
    refine E.fld ?_
    refine E.var 1 rfl ?_
    refine ⟨_, _, _, _, rfl, tR.cls, tR.nb, rfl, ?_⟩
    walk_at "o"
    refine A.cons ?_
    refine E.bin ?_
    refine E.fld ?_
    refine E.var 0 rfl ?_
    refine ⟨_, _, _, _, rfl, tR.cls, tR.nb, rfl, ?_⟩
    refine E.fld ?_
    refine E.var 1 rfl ?_
    refine ⟨_, _, _, _, rfl, tR.cls, tR.nt, rfl, ?_⟩
    walk_at "o"
    refine A.nil ?_
    refine ⟨[.int _, .int _], rfl, ⟨_, _, rfl, Int.mul_ne_zero (by omega) hz, (Bd.mul n1 d2).mono (by decide), (Bd.mul d1 n2).mono (by decide)⟩, ?_⟩
    rintro fs ⟨p, q, rfl, hn⟩
    exact ⟨_, rfl, p, q, rfl, hn⟩
  · subst e
    show W _ _ _ _ _ [some (.d (rat C n d)), some (.d (.int i))]
    refine W.cons ?_
    refine W1.iff ?_
    refine T.truth ?_
    refine E.callB B.isinstance bt_isinstance ?_
    refine A.cons ?_
    refine E.var 1 rfl ?_
    refine A.cons ?_
    refine E.globR tR.mgR ?_
    refine A.nil ?_
    walk_at "cl"
    walk_at "tr"
    refine iteF (W.nil ?_)
    refine W.cons ?_
    refine W1.ret ?_
    refine E.dmake MI tR.mgR (hr.mono (by decide)) ?_
    refine A.cons ?_
    refine E.fld ?_
    refine E.var 0 rfl ?_
    refine ⟨_, _, _, _, rfl, tR.cls, tR.nt, rfl, ?_⟩
    refine A.cons ?_
    refine E.bin ?_
    refine E.fld ?_
    refine E.var 0 rfl ?_
    refine ⟨_, _, _, _, rfl, tR.cls, tR.nb, rfl, ?_⟩
    refine E.var 1 rfl ?_
    walk_at "o"
    refine A.nil ?_
    refine ⟨[.int _, .int _], rfl, ⟨_, _, rfl, Int.mul_ne_zero (by omega) hz, n1.mono (by decide), (Bd.mul d1 n2).mono (by decide)⟩, ?_⟩
    rintro fs ⟨p, q, rfl, hn⟩
    refine ⟨_, rfl, p, q, rfl, ?_⟩
    show Nrm (n * 1) (d * i) p q
    rw [Int.mul_one]; exact hn
theorem ok_overX {Z : Addr} (F : Dm K C "over" "Ratio.over" sOver ["self", "other"] f fd) (RB : RatB P w K mg base C) (MIX : IOk P w K mg base (L2.CX P w) C 1 [] (spIX K C ["top", "bottom"] preIX postIX (excI Z))) : FnOk P w K mg base (L2.CX P w) 3 f fd ["self", "other"] (spX K (pre2 C) (postOverX C) (excI Z)) := by
  obtain ⟨B, tR, MI⟩ := RB
  refine ok_X F.fn scOver (fun ds h => by rcases h with ⟨_, _, _, _, e, _⟩ | ⟨_, _, _, e, _⟩ <;> rw [e] <;> rfl) fun cdv Ar outer sh Hp0 xE Fr ds hr hm hp tk => ?_
  have nd := scOver.nd
  have q1 := tR.isc
  have q2 := tR.kRR
  have q3 := tR.kIR
  have q4 := tR.kII
  rcases hp with ⟨n, d, a, b, e, ⟨hd, n1, d1⟩, ⟨hb, n2, d2⟩⟩ | ⟨n, d, i, e, ⟨hd, n1, d1⟩, n2⟩
  · subst e
    show W _ _ _ _ _ [some (.d (rat C n d)), some (.d (rat C a b))]
    refine W.cons ?_
    refine W1.iff ?_
    refine T.truth ?_
    refine E.callB B.isinstance bt_isinstance ?_
    refine A.cons ?_
    refine E.var 1 rfl ?_
    refine A.cons ?_
    refine E.globR tR.mgR ?_
    refine A.nil ?_
    walk_at "cl"
    walk_at "tr"
    refine iteT ?_
    refine W.cons ?_
    refine W1.ret ?_
    refine E.dmakeX tk MIX tR.mgR (hr.mono (by decide)) ?_
    refine A.cons ?_
    refine E.bin ?_
    refine E.fld ?_
    refine E.var 0 rfl ?_
    refine ⟨_, _, _, _, rfl, tR.cls, tR.nt, rfl, ?_⟩
    refine E.fld ?_
    refine E.var 1 rfl ?_
    refine ⟨_, _, _, _, rfl, tR.cls, tR.nb, rfl, ?_⟩
    walk_at "o"
    refine A.cons ?_
    refine E.bin ?_
    refine E.fld ?_
    refine E.var 0 rfl ?_
    refine ⟨_, _, _, _, rfl, tR.cls, tR.nb, rfl, ?_⟩
    refine E.fld ?_
    refine E.var 1 rfl ?_
    refine ⟨_, _, _, _, rfl, tR.cls, tR.nt, rfl, ?_⟩
    walk_at "o"
    refine A.nil ?_
    refine ⟨[.int _, .int _], rfl, ⟨_, _, rfl, (Bd.mul n1 d2).mono (by decide), (Bd.mul d1 n2).mono (by decide)⟩, ?_, ?_⟩
    · rintro fs ⟨⟨p, q, rfl, hn⟩, hz⟩
      exact ⟨_, rfl, ⟨p, q, rfl, hn⟩, fun z => hz (Int.mul_eq_zero.mpr (.inr z))⟩
    · rintro c ⟨h0, rfl⟩
      exact ⟨(Int.mul_eq_zero.mp h0).resolve_left (by omega), rfl⟩
  · subst e
    show W _ _ _ _ _ [some (.d (rat C n d)), some (.d (.int i))]
    refine W.cons ?_
    refine W1.iff ?_
    refine T.truth ?_
    refine E.callB B.isinstance bt_isinstance ?_
    refine A.cons ?_
    refine E.var 1 rfl ?_
    refine A.cons ?_
    refine E.globR tR.mgR ?_
    refine A.nil ?_
    walk_at "cl"
    walk_at "tr"
    refine iteF (W.nil ?_)
    refine W.cons ?_
    refine W1.ret ?_
    refine E.dmakeX tk MIX tR.mgR (hr.mono (by decide)) ?_
    refine A.cons ?_
    refine E.fld ?_
    refine E.var 0 rfl ?_
    refine ⟨_, _, _, _, rfl, tR.cls, tR.nt, rfl, ?_⟩
    refine A.cons ?_
    refine E.bin ?_
    refine E.fld ?_
    refine E.var 0 rfl ?_
    refine ⟨_, _, _, _, rfl, tR.cls, tR.nb, rfl, ?_⟩
    refine E.var 1 rfl ?_
    walk_at "o"
    refine A.nil ?_
    refine ⟨[.int _, .int _], rfl, ⟨_, _, rfl, n1.mono (by decide), (Bd.mul d1 n2).mono (by decide)⟩, ?_, ?_⟩
    · rintro fs ⟨⟨p, q, rfl, hn⟩, hz⟩
      refine ⟨_, rfl, ⟨p, q, rfl, ?_⟩, fun z => hz (Int.mul_eq_zero.mpr (.inr z))⟩
      show Nrm (n * 1) (d * i) p q
      rw [Int.mul_one]; exact hn
    · rintro c ⟨h0, rfl⟩
      exact ⟨(Int.mul_eq_zero.mp h0).resolve_left (by omega), rfl⟩
abbrev sCompare : Stmt := top 15
theorem scCompare : FnScope ["first", "second"] ["first", "second"] (defScope sCompare) := ⟨rfl, rfl, rfl, by decide +kernel, rfl, by decide +kernel, by decide +kernel⟩
theorem ok_compare (F : Df K mg "compare" sCompare ["first", "second"] f fd) (RB : RatB P w K mg base C) (MSub : MOk P w K mg base CX0 C "__sub__" 3 (spF K (pre2 C) (postSub C))) (MSign : MOk P w K mg base CX0 C "sign" 1 (spF K (pre1 C) postSign)) :
    FnOk P w K mg base CX0 4 f fd ["first", "second"] (spF K (preH C) fun ds r => ∃ p q, Nrm (nu (a0 ds) * de (a1 ds) - nu (a1 ds) * de (a0 ds)) (de (a0 ds) * de (a1 ds)) p q ∧ r = .int (sgn p)) := by
  obtain ⟨B, tR, MI⟩ := RB
  refine ok_F F.fn scCompare (fun ds h => by obtain ⟨_, _, _, _, e, _⟩ := h; rw [e]; rfl) fun cdv Ar outer sh Hp0 xE Fr ds hr hm ⟨n, d, a, b, e, ok1, ok2, h1, h2⟩ => ?_
  have nd := scCompare.nd
  subst e
  show W _ _ _ _ _ [some (.d (rat C n d)), some (.d (rat C a b))]
  refine W.cons ?_
  refine W1.ret ?_
  refine E.dmeth0 tR.cls MSign (hr.mono (by decide)) ?_
  refine E.bin ?_
  refine E.var 0 rfl ?_
  refine E.var 1 rfl ?_
  refine O2.dB tR.sf dn_sub MSub (hr.mono (by decide)) (.inl ⟨_, _, _, _, rfl, ok1, ok2⟩) ?_
  rintro r ⟨p, q, rfl, hn⟩
  have hn : Nrm (n * b - a * d) (d * b) p q := hn
  obtain ⟨hd, n1, d1⟩ := ok1
  obtain ⟨hb, n2, d2⟩ := ok2
  have hl := hn.le (Int.mul_ne_zero (by omega) (by omega))
  refine ⟨_, _, rfl, rfl, ⟨_, _, rfl, hn.1, ?_, ?_⟩, ?_⟩
  · exact ((Bd.sub (Bd.mul h1.2.1 h2.2.2) (Bd.mul h2.2.1 h1.2.2)).le hl.1).mono (by decide)
  · exact ((Bd.mul h1.2.2 h2.2.2).le hl.2).mono (by decide)
  · rintro r rfl
    exact ⟨_, rfl, p, q, hn, rfl⟩
end

theorem fdiv_abs {a b : Int} (hb : b ≠ 0) : (a.fdiv b).natAbs ≤ a.natAbs := by
  by_cases h : 0 ≤ b
  · rw [Int.fdiv_eq_ediv_of_nonneg _ h]; exact Int.natAbs_ediv_le_natAbs a b
  · rw [← Int.neg_fdiv_neg, Int.fdiv_eq_ediv_of_nonneg _ (by omega)]
    have := Int.natAbs_ediv_le_natAbs (-a) (-b)
    rwa [Int.natAbs_neg] at this
theorem bits_lt {x : Int} : x.natAbs < 2 ^ (Builtin.Int.intBits x) := by
  unfold Builtin.Int.intBits
  by_cases h : x = 0
  · subst h; decide
  · have : (x == 0) = false := by simpa using h
    rw [this]
    exact Nat.lt_log2_self
theorem bits_le {x : Int} {k : Nat} (h : Bd k x) : Builtin.Int.intBits x ≤ k := by
  unfold Builtin.Int.intBits
  by_cases z : x = 0
  · subst z; exact Nat.zero_le _
  · have : (x == 0) = false := by simpa using z
    rw [this]
    exact (Nat.log2_lt (by omega)).mpr h
theorem Bd.lit {k : Nat} {x : Int} (h : x.natAbs < 2 ^ k := by decide) : Bd k x := h
theorem Bd.max1 {k : Nat} {x : Int} (h : Bd (k + 1) x) : Bd (k + 1) (if 1 < x then x else 1) := by
  split
  · exact h
  · show (1 : Int).natAbs < 2 ^ (k + 1)
    exact Nat.one_lt_two_pow (by omega)
theorem max1_ne {x : Int} : (if (1 : Int) < x then x else 1) ≠ 0 := by split <;> omega
theorem Bd.mod {k : Nat} {x m : Int} (h0 : 0 < m) (hm : Bd k m) : Bd k (x % m) := by
  have h1 := Int.emod_nonneg x (show m ≠ 0 by omega)
  have h2 := Int.emod_lt_of_pos x h0
  exact hm.le (by omega)
theorem Bd.of_lt {k : Nat} {x m : Int} (h0 : 0 ≤ x) (h : x < m) (hm : Bd k m) : Bd k x := hm.le (by omega)

/-- the script's numbers as the drawing defs hold them -/
def PoolI (ps : List D) : Prop := ∃ (gs ss : List Int) (n : Int), ps = [.lst (gs.map D.int), .lst (ss.map D.int), .int n] ∧ (∀ g ∈ gs, 0 ≤ g) ∧ (∀ s ∈ ss, 0 ≤ s) ∧ 0 < ss.length ∧ gs.length ≤ 100 ∧ ss.length ≤ 100 ∧ 0 ≤ n
def preTake : List D → Prop := fun ds => ∃ m : Int, ds = [.int m] ∧ m.natAbs < 2 ^ 1000
def postTake : List D → D → Prop := fun ds d => ∃ m r : Int, ds = [.int m] ∧ d = .int r ∧ 0 ≤ r ∧ (2 ≤ m → r < m) ∧ (m < 2 → r = 0)
abbrev sTake : Stmt := top 18
theorem scTake : FnScope ["pool", "most", "value", "rest", "count", "seed", "mixed"] ["pool", "most"] (defScope sTake) := ⟨rfl, rfl, rfl, by decide +kernel, rfl, by decide +kernel, by decide +kernel⟩
section
variable {P : Program} {w : World} {K : PySem.W.Frag} {mg : Str → Option Value} {base : Heap}
set_option maxHeartbeats 1000000 in
theorem ok_take {f : Addr} {fd : FuncData} (F : Fun K "_law_take" "_law_take" sTake f fd) (B : Bl mg) : FnOk P w K mg base CX0 1 f fd ["pool", "most"] (spP K PoolI preTake postTake) := by
  refine ok_P F scTake (fun ds ⟨m, e, _⟩ => by rw [e]; rfl) fun cdv Ar outer sh Hp0 xE Fr ds hr ⟨m, e, hm⟩ => ?_
  subst e
  have nd := scTake.nd
  show W _ _ _ _ _ [some (.c 0), some (.d (.int m)), none, none, none, none, none]
  refine W.openC 0 rfl fun ps ⟨gs, ss, n, e, hg, hs, h0, hgl, hsl, hn⟩ => ?_
  subst e
  have hp : PoolI [.lst (gs.map D.int), .lst (ss.map D.int), .int n] := ⟨gs, ss, n, rfl, hg, hs, h0, hgl, hsl, hn⟩
  refine W.cons ?_
  refine W1.iff ?_
  refine T.cmp ?_
  refine E.var 1 rfl ?_
  refine E.int ?_
  walk_at "o"
  refine ⟨_, rfl, ?_⟩
  refine ifd (fun h => ?_) (fun h2 => ?_)
  · skip -- 137.0 of 0: return 0
    refine W.cons ?_
    refine W1.ret ?_
    refine E.int ?_
    exact ⟨.inr ⟨_, rfl, hp⟩, _, rfl, m, 0, rfl, rfl, by omega, fun z => by omega, fun _ => rfl⟩
  refine W.nil ?_
  have h0m : (0 : Int) < m := by omega
  refine W.cons ?_
  refine W1.iff ?_
  refine T.cmp ?_
  refine E.callB B.len bt_len ?_
  refine A.cons ?_
  refine E.ix ?_
  refine E.var 0 rfl ?_
  refine E.int ?_
  walk_at "ix"
  refine A.nil ?_
  walk_at "cl"
  refine E.int ?_
  walk_at "o"
  refine ⟨_, rfl, ?_⟩
  refine ifd (fun h => ?_) (fun h => ?_)
  · obtain ⟨g, gs, rfl⟩ : ∃ g r, gs = g :: r := by cases gs with
      | nil => simp at h
      | cons g r => exact ⟨g, r, rfl⟩
    have e1 : DL.cutD (D.int g :: gs.map D.int) (some 1) none = gs.map D.int := cut1
    have hdv : CDivW g m := wide_div (by omega) hm (by decide) (by decide)
    have hg0 : 0 ≤ g := hg g (List.mem_cons_self ..)
    have hq : 0 ≤ g / m := Int.ediv_nonneg hg0 (by omega)
    have hr0 := Int.emod_nonneg g (show m ≠ 0 by omega)
    have hr1 := Int.emod_lt_of_pos g h0m
    have hlen : gs.length ≤ 99 := by simpa using hgl
    have hpA : PoolI [.lst (gs.map D.int), .lst (ss.map D.int), .int n] := ⟨gs, ss, n, rfl, fun x hx => hg x (List.mem_cons_of_mem _ hx), hs, h0, by omega, hsl, hn⟩
    have hpB : PoolI [.lst ((g / m :: gs).map D.int), .lst (ss.map D.int), .int n] := ⟨g / m :: gs, ss, n, rfl, fun x hx => by
      rcases List.mem_cons.mp hx with z | z
      · rw [z]; exact hq
      · exact hg x (List.mem_cons_of_mem _ z), hs, h0, by simpa using hgl, hsl, hn⟩
    refine W.cons ?_
    refine W1.set 2 ?_ nd
    refine E.ix ?_
    refine E.ix ?_
    refine E.var 0 rfl ?_
    refine E.int ?_
    walk_at "ix"
    refine E.int ?_
    walk_at "ix"
    walk_at "n"
    refine W.cons ?_
    refine W1.set 3 ?_ nd
    refine E.callTy B.list bt_list ?_
    refine A.cons ?_
    refine E.slice ?_
    refine E.ix ?_
    refine E.var 0 rfl ?_
    refine E.int ?_
    walk_at "ix"
    refine PoE.some ?_
    refine E.int ?_
    refine ⟨_, rfl, ?_⟩
    refine PoE.none ?_
    walk_at "sl"
    refine A.nil ?_
    walk_at "cl"
    walk_at "n"
    rw [show (List.map D.int (g :: gs)) = D.int g :: gs.map D.int from rfl, e1]
    refine W.cons ?_
    refine W1.iff ?_
    refine T.cmp ?_
    refine E.bin ?_
    refine E.var 2 rfl ?_
    refine E.var 1 rfl ?_
    walk_at "o"
    refine E.int ?_
    walk_at "o"
    refine ⟨_, rfl, ?_⟩
    refine ifd (fun h => ?_) (fun h => ?_)
    · skip -- 142.0 of 0: rest = [value // most] + rest
      refine W.cons ?_
      refine W1.set 3 ?_ nd
      refine E.bin ?_
      refine E.lst ?_
      refine A.cons ?_
      refine E.bin ?_
      refine E.var 2 rfl ?_
      refine E.var 1 rfl ?_
      walk_at "o"
      refine A.nil ?_
      walk_at "disp"
      refine E.var 3 rfl ?_
      walk_at "o"
      walk_at "n"
      refine W.nil ?_
      refine W.cons ?_
      refine W1.setIx ?_
      refine E.var 3 rfl ?_
      refine E.var 0 rfl ?_
      refine E.int ?_
      walk_at "six"
      refine W.cons ?_
      refine W1.ret ?_
      refine E.bin ?_
      refine E.callTy B.int bt_int ?_
      refine A.cons ?_
      refine E.var 2 rfl ?_
      refine A.nil ?_
      walk_at "cl"
      refine E.var 1 rfl ?_
      walk_at "o"
      exact ⟨.inr ⟨_, rfl, hpB⟩, _, rfl, m, _, rfl, rfl, hr0, fun _ => hr1, fun z => absurd z h2⟩
    · refine W.nil ?_
      refine W.cons ?_
      refine W1.setIx ?_
      refine E.var 3 rfl ?_
      refine E.var 0 rfl ?_
      refine E.int ?_
      walk_at "six"
      refine W.cons ?_
      refine W1.ret ?_
      refine E.bin ?_
      refine E.callTy B.int bt_int ?_
      refine A.cons ?_
      refine E.var 2 rfl ?_
      refine A.nil ?_
      walk_at "cl"
      refine E.var 1 rfl ?_
      walk_at "o"
      exact ⟨.inr ⟨_, rfl, hpA⟩, _, rfl, m, _, rfl, rfl, hr0, fun _ => hr1, fun z => absurd z h2⟩
  · refine W.nil ?_
    have hss : (0 : Int) < ((ss.map D.int).length : Int) := by rw [List.length_map]; omega
    obtain ⟨s, hi, hs0⟩ : ∃ s : Int, atI (ss.map D.int) (n / 4 % ((ss.map D.int).length : Int)) = some (D.int s) ∧ 0 ≤ s := by
      have h1 := Int.emod_nonneg (n / 4) (show ((ss.map D.int).length : Int) ≠ 0 by omega)
      have h2 := Int.emod_lt_of_pos (n / 4) hss
      generalize n / 4 % ((ss.map D.int).length : Int) = j at h1 h2
      obtain ⟨j, rfl⟩ := Int.eq_ofNat_of_zero_le h1
      have hj : j < ss.length := by rw [List.length_map] at h2; omega
      exact ⟨ss[j], atI_nat (by rw [List.getElem?_map, List.getElem?_eq_getElem hj]; rfl), hs _ (List.getElem_mem hj)⟩
    have hpC : PoolI [.lst (gs.map D.int), .lst (ss.map D.int), .int (n + 1)] := ⟨gs, ss, n + 1, rfl, hg, hs, h0, hgl, hsl, by omega⟩
    refine W.cons ?_
    refine W1.set 4 ?_ nd
    refine E.ix ?_
    refine E.var 0 rfl ?_
    refine E.int ?_
    walk_at "ix"
    walk_at "n"
    refine W.cons ?_
    refine W1.setIx ?_
    refine E.bin ?_
    refine E.var 4 rfl ?_
    refine E.int ?_
    walk_at "o"
    refine E.var 0 rfl ?_
    refine E.int ?_
    walk_at "six"
    refine W.cons ?_
    refine W1.set 5 ?_ nd
    refine E.ix ?_
    refine E.ix ?_
    refine E.var 0 rfl ?_
    refine E.int ?_
    walk_at "ix"
    refine E.bin ?_
    refine E.callTy B.int bt_int ?_
    refine A.cons ?_
    refine E.bin ?_
    refine E.var 4 rfl ?_
    refine E.int ?_
    walk_at "o"
    refine A.nil ?_
    walk_at "cl"
    refine E.callB B.len bt_len ?_
    refine A.cons ?_
    refine E.ix ?_
    refine E.var 0 rfl ?_
    refine E.int ?_
    walk_at "ix"
    refine A.nil ?_
    walk_at "cl"
    walk_at "o"
    walk_at "ix"
    walk_at "n"
    refine W.cons ?_
    refine W1.set 6 ?_ nd
    refine E.bin ?_
    refine E.callTy B.int bt_int ?_
    refine A.cons ?_
    refine E.bin ?_
    refine E.bin ?_
    refine E.bin ?_
    refine E.var 5 rfl ?_
    refine E.int ?_
    walk_at "o"
    refine E.bin ?_
    refine E.var 4 rfl ?_
    refine E.int ?_
    walk_at "o"
    walk_at "o"
    refine E.int ?_
    walk_at "o"
    refine A.nil ?_
    walk_at "cl"
    refine E.int ?_
    walk_at "o"
    walk_at "n"
    refine W.cons ?_
    refine W1.set 6 ?_ nd
    refine E.bin ?_
    refine E.callTy B.int bt_int ?_
    refine A.cons ?_
    refine E.bin ?_
    refine E.bin ?_
    refine E.bin ?_
    refine E.var 6 rfl ?_
    refine E.var 6 rfl ?_
    walk_at "o"
    refine E.bin ?_
    refine E.var 4 rfl ?_
    refine E.int ?_
    walk_at "o"
    walk_at "o"
    refine E.int ?_
    walk_at "o"
    refine A.nil ?_
    walk_at "cl"
    refine E.int ?_
    walk_at "o"
    walk_at "n"
    refine W.cons ?_
    refine W1.set 6 ?_ nd
    refine E.bin ?_
    refine E.callTy B.int bt_int ?_
    refine A.cons ?_
    refine E.bin ?_
    refine E.bin ?_
    refine E.bin ?_
    refine E.var 6 rfl ?_
    refine E.var 6 rfl ?_
    walk_at "o"
    refine E.var 5 rfl ?_
    walk_at "o"
    refine E.int ?_
    walk_at "o"
    refine A.nil ?_
    walk_at "cl"
    refine E.int ?_
    walk_at "o"
    walk_at "n"
    refine W.cons ?_
    refine W1.ret ?_
    refine E.bin ?_
    refine E.callTy B.int bt_int ?_
    refine A.cons ?_
    refine E.bin ?_
    refine E.var 6 rfl ?_
    refine E.int ?_
    walk_at "o"
    refine A.nil ?_
    walk_at "cl"
    refine E.var 1 rfl ?_
    walk_at "o"
    have fin : ∀ x : Int, 0 ≤ x % m ∧ (2 ≤ m → x % m < m) := fun x => ⟨Int.emod_nonneg x (by omega), fun _ => Int.emod_lt_of_pos x h0m⟩
    exact ⟨.inr ⟨_, rfl, hpC⟩, _, rfl, m, _, rfl, rfl, (fin _).1, (fin _).2, fun z => absurd z h2⟩
end

section
variable {P : Program} {w : World} {K : PySem.W.Frag} {mg : Str → Option Value} {base : Heap} {C : Addr} {f : Addr} {fd : FuncData}
abbrev intL (ns : List Int) : List R := (ns.map D.int).map R.d
def preP : List D → Prop := fun ds => ∃ ns : List Int, ds = [.rol (ns.map D.int)] ∧ ns.length ≤ 63
theorem ints_snoc {ns : List Int} {n : Int} : intL ns ++ [.d (.int n)] = intL (ns ++ [n]) := by simp [intL]
abbrev sPool : Stmt := top 17
theorem scPool : FnScope ["script", "greats", "smalls", "cell"] ["script"] (defScope sPool) := ⟨rfl, rfl, rfl, by decide +kernel, rfl, by decide +kernel, by decide +kernel⟩
theorem ok_pool (F : Df K mg "_law_pool" sPool ["script"] f fd) (B : Bl mg) : FnOk P w K mg base CX0 1 f fd ["script"] (spN K preP fun _ => PoolI) := by
  refine ok_N F.fn scPool (fun ds ⟨_, e, _⟩ => by rw [e]; rfl) fun cdv Ar outer sh Hp0 xE Fr ds hr hm ⟨ns, e, hz⟩ => ?_
  have nd := scPool.nd
  subst e
  show W _ _ _ _ _ [some (.d (.rol (ns.map D.int))), none, none, none]
  refine W.cons ?_
  refine W1.set 1 ?_ nd
  refine E.lstC ?_
  refine A.nil ?_
  walk_at "dispC"
  walk_at "n"
  refine W.cons ?_
  refine W1.set 2 ?_ nd
  refine E.lstC ?_
  refine A.nil ?_
  walk_at "dispC"
  walk_at "n"
  refine W.cut (fun o r => ∃ gs ss c, o = [.lst (intL gs), .lst (intL ss)] ∧ r = [some (.d (.rol (ns.map D.int))), some (.c 0), some (.c 1), c] ∧ (∀ g ∈ gs, 0 ≤ g) ∧ (∀ s ∈ ss, 0 ≤ s) ∧ gs.length + ss.length = ns.length) ?_ ?_
  · refine W1.forL (fun i o r => ∃ gs ss c, o = [.lst (intL gs), .lst (intL ss)] ∧ r = [some (.d (.rol (ns.map D.int))), some (.c 0), some (.c 1), c] ∧ (∀ g ∈ gs, 0 ≤ g) ∧ (∀ s ∈ ss, 0 ≤ s) ∧ gs.length + ss.length = i) rfl PassesOwn.never ?_
    refine E.var 0 rfl ?_
    refine ⟨_, .inr rfl, ⟨[], [], _, rfl, rfl, by simp, by simp, rfl⟩, ?_, ?_⟩
    · rintro i d o ρ hd ⟨gs, ss, c, rfl, rfl, hg, hs, hl⟩
      have hi : i < ns.length := by have := (List.getElem?_eq_some_iff.mp hd).1; simpa using this
      rw [List.getElem?_map, List.getElem?_eq_getElem hi] at hd
      cases hd
      have hlg : gs.length < 63 ∧ ss.length < 63 := by omega
      generalize ns[i] = x
      have hx : (0 : Int) ≤ (x.natAbs : Int) := by omega
      refine Tg.name 3 ?_ nd
      refine W.cons ?_
      refine W1.iff ?_
      refine T.cmp ?_
      refine E.callB B.abs bt_abs ?_
      refine A.cons ?_
      refine E.callTy B.int bt_int ?_
      refine A.cons ?_
      refine E.var 3 rfl ?_
      refine A.nil ?_
      walk_at "cl"
      refine A.nil ?_
      walk_at "cl"
      refine E.bin ?_
      refine E.int ?_
      refine E.int ?_
      walk_at "o"
      walk_at "o"
      refine ⟨_, rfl, ?_⟩
      refine ifd (fun h => ?_) (fun h => ?_)
      · skip -- 129.0 of 0: greats.append(abs(int(cell)))
        refine W.cons ?_
        refine W1.expr ?_
        refine E.append ?_
        refine E.var 1 rfl ?_
        refine ⟨_, rfl, ?_, ?_⟩; rotate_left; exact ⟨_, rfl⟩
        refine E.callB B.abs bt_abs ?_
        refine A.cons ?_
        refine E.callTy B.int bt_int ?_
        refine A.cons ?_
        refine E.var 3 rfl ?_
        refine A.nil ?_
        walk_at "cl"
        refine A.nil ?_
        walk_at "cl"
        walk_at "app"
        refine W.nil (W.nil ⟨gs ++ [(x.natAbs : Int)], ss, _, by rw [ints_snoc]; rfl, rfl, ?_, hs, by simp; omega⟩)
        intro g hg'
        rcases List.mem_append.mp hg' with z | z
        · exact hg g z
        · rw [List.mem_singleton.mp z]; exact hx
      · skip -- 131.0 of 0: smalls.append(abs(int(cell)))
        refine W.cons ?_
        refine W1.expr ?_
        refine E.append ?_
        refine E.var 2 rfl ?_
        refine ⟨_, rfl, ?_, ?_⟩; rotate_left; exact ⟨_, rfl⟩
        refine E.callB B.abs bt_abs ?_
        refine A.cons ?_
        refine E.callTy B.int bt_int ?_
        refine A.cons ?_
        refine E.var 3 rfl ?_
        refine A.nil ?_
        walk_at "cl"
        refine A.nil ?_
        walk_at "cl"
        walk_at "app"
        refine W.nil (W.nil ⟨gs, ss ++ [(x.natAbs : Int)], _, by rw [ints_snoc]; rfl, rfl, hg, ?_, by simp; omega⟩)
        intro g hg'
        rcases List.mem_append.mp hg' with z | z
        · exact hs g z
        · rw [List.mem_singleton.mp z]; exact hx
    · rintro o ρ ⟨gs, ss, c, rfl, rfl, hg, hs, hl⟩
      exact ⟨gs, ss, c, rfl, rfl, hg, hs, by rw [hl, List.length_map]⟩
  rintro o ρ ⟨gs, ss, c, rfl, rfl, hg, hs, hl⟩
  have hl1 : gs.length ≤ 63 ∧ ss.length ≤ 63 := by omega
  refine W.cut (fun o r => ∃ gs ss c, o = [.lst (intL gs), .lst (intL ss)] ∧ r = [some (.d (.rol (ns.map D.int))), some (.c 0), some (.c 1), c] ∧ (∀ g ∈ gs, 0 ≤ g) ∧ (∀ s ∈ ss, 0 ≤ s) ∧ 0 < ss.length ∧ gs.length ≤ 64 ∧ ss.length ≤ 64) ?_ ?_
  · have e : ∀ X : Nat, X = X := fun _ => rfl
    refine W1.iff ?_
    refine T.cmp ?_
    refine E.callB B.len bt_len ?_
    refine A.cons ?_
    refine E.var 2 rfl ?_
    refine A.nil ?_
    walk_at "cl"
    refine E.int ?_
    walk_at "o"
    refine ⟨_, rfl, ?_⟩
    refine ifd (fun h => ?_) (fun h => ?_)
    · skip -- 133.0 of 0: smalls.append(len(greats))
      refine W.cons ?_
      refine W1.expr ?_
      refine E.append ?_
      refine E.var 2 rfl ?_
      refine ⟨_, rfl, ?_, ?_⟩; rotate_left; exact ⟨_, rfl⟩
      refine E.callB B.len bt_len ?_
      refine A.cons ?_
      refine E.var 1 rfl ?_
      refine A.nil ?_
      walk_at "cl"
      walk_at "app"
      refine W.nil ⟨gs, ss ++ [_], _, by rw [ints_snoc]; rfl, rfl, hg, ?_, by simp, by omega, by simp; omega⟩
      intro g hg'
      rcases List.mem_append.mp hg' with z | z
      · exact hs g z
      · rw [List.mem_singleton.mp z]; omega
    · refine W.nil ⟨gs, ss, _, rfl, rfl, hg, hs, ?_, by omega, by omega⟩
      simp at h
      exact List.length_pos_iff.mpr h
  rintro o ρ ⟨gs, ss, c, rfl, rfl, hg, hs, h0, h1, h2⟩
  refine W.freeze 0 rfl (W.freeze 1 rfl ?_)
  show W _ _ _ _ [.gone, .gone] [some (.d (.rol (ns.map D.int))), some (.d (.lst (gs.map D.int))), some (.d (.lst (ss.map D.int))), _]
  refine W.cons ?_
  refine W1.ret ?_
  refine E.lstC ?_
  refine A.cons ?_
  refine E.var 1 rfl ?_
  refine A.cons ?_
  refine E.var 2 rfl ?_
  refine A.cons ?_
  refine E.int ?_
  refine A.nil ?_
  walk_at "dispC"
  exact ⟨2, [.lst (gs.map D.int), .lst (ss.map D.int), .int 0], rfl, rfl, gs, ss, 0, rfl, hg, hs, h0, by omega, by omega, by omega⟩
abbrev sInteger : Stmt := top 19
theorem scInteger : FnScope ["thing"] ["thing"] (defScope sInteger) := ⟨rfl, rfl, rfl, by decide +kernel, rfl, by decide +kernel, by decide +kernel⟩
theorem ok_integer (F : Df K mg "_law_integer" sInteger ["thing"] f fd) (B : Bl mg) (tR : RatT K mg C) : FnOk P w K mg base CX0 1 f fd ["thing"] (spF K (fun ds => ∃ i, ds = [.int i]) fun _ r => r = .bl true) := by
  refine ok_F F.fn scInteger (fun ds ⟨_, e⟩ => by rw [e]; rfl) fun cdv Ar outer sh Hp0 xE Fr ds hr hm ⟨i, e⟩ => ?_
  have nd := scInteger.nd
  have q4 := tR.kII
  have q5 := tR.kIB
  subst e
  show W _ _ _ _ _ [some (.d (.int i))]
  refine W.cons ?_
  refine W1.ret ?_
  refine E.and ?_
  refine E.callB B.isinstance bt_isinstance ?_
  refine A.cons ?_
  refine E.var 0 rfl ?_
  refine A.cons ?_
  refine E.bty B.int bt_int ?_
  refine A.nil ?_
  walk_at "cl"
  refine ⟨_, rfl, ?_⟩
  refine iteT ?_
  refine E.one ?_
  refine E.not ?_
  refine E.callB B.isinstance bt_isinstance ?_
  refine A.cons ?_
  refine E.var 0 rfl ?_
  refine A.cons ?_
  refine E.bty B.bool bt_bool ?_
  refine A.nil ?_
  walk_at "cl"
  refine ⟨_, rfl, ?_⟩
  exact ⟨_, rfl, rfl⟩
abbrev sCommon : Stmt := top 20
theorem scCommon : FnScope ["one", "two", "k", "rest"] ["one", "two"] (defScope sCommon) := ⟨rfl, rfl, rfl, by decide +kernel, rfl, by decide +kernel, by decide +kernel⟩
def preCom : List D → Prop := fun ds => ∃ a b : Int, ds = [.int a, .int b] ∧ Bd 4000 b
def postCom : List D → D → Prop := fun ds r => r = .int ((Nat.gcd (nu (a0 ds)).natAbs (nu (a1 ds)).natAbs : Nat) : Int)
theorem ok_common (F : Df K mg "_law_common" sCommon ["one", "two"] f fd) (B : Bl mg) : FnOk P w K mg base CX0 1 f fd ["one", "two"] (spF K preCom postCom) := by
  refine ok_F F.fn scCommon (fun ds ⟨_, _, e, _⟩ => by rw [e]; rfl) fun cdv Ar outer sh Hp0 xE Fr ds hr hm ⟨a, b, e, hb⟩ => ?_
  have nd := scCommon.nd
  subst e
  show W _ _ _ _ _ [some (.d (.int a)), some (.d (.int b)), none, none]
  refine W.cons ?_
  refine W1.set 0 ?_ nd
  refine E.callB B.abs bt_abs ?_
  refine A.cons ?_
  refine E.var 0 rfl ?_
  refine A.nil ?_
  walk_at "cl"
  walk_at "n"
  refine W.cons ?_
  refine W1.set 1 ?_ nd
  refine E.callB B.abs bt_abs ?_
  refine A.cons ?_
  refine E.var 1 rfl ?_
  refine A.nil ?_
  walk_at "cl"
  walk_at "n"
  have hB := bits_le (Bd.abs hb)
  have hB2 := bits_lt (x := (b.natAbs : Int))
  rw [Int.natAbs_natCast] at hB2
  refine W.cut (fun o r => o = [] ∧ ∃ z y u v, r = [some (.d (.int z)), y, u, v] ∧ z = ((Nat.gcd a.natAbs b.natAbs : Nat) : Int)) ?_ ?_
  · refine W1.forR (fun i o r => o = [] ∧ ∃ (x y : Nat) (u v : Option R), r = [some (.d (.int x)), some (.d (.int y)), u, v] ∧ Eu (Nat.gcd a.natAbs b.natAbs) (Builtin.Int.intBits (b.natAbs : Int)) i x y ∧ (i = 0 → y < 2 ^ (Builtin.Int.intBits (b.natAbs : Int)))) B.range rfl PassesOwn.never ?_
    refine E.bin ?_
    refine E.bin ?_
    refine E.int ?_
    refine E.bits ?_
    refine E.var 1 rfl ?_
    refine ⟨_, rfl, ?_⟩
    walk_at "o"
    refine E.int ?_
    walk_at "o"
    generalize Builtin.Int.intBits (b.natAbs : Int) = n at *
    have en : (2 * (n : Int) + 2).toNat = 2 * n + 2 := by omega
    refine ⟨_, rfl, ⟨by omega, by omega⟩, ⟨rfl, a.natAbs, b.natAbs, _, _, rfl, ⟨rfl, .inl rfl⟩, fun _ => hB2⟩, ?_, ?_⟩
    · rintro i o ρ hi ⟨rfl, x, y, u, v, rfl, eu, h0⟩
      refine Tg.name 2 ?_ nd
      refine W.cons ?_
      refine W1.iff ?_
      refine T.cmp ?_
      refine E.var 1 rfl ?_
      refine E.int ?_
      walk_at "o"
      refine ⟨_, rfl, ?_⟩
      refine ifd (fun h => ?_) (fun h => ?_)
      · have : y = 0 := by omega
        subst this
        refine W.cons ?_
        refine W1.ret ?_
        refine E.var 0 rfl ?_
        exact ⟨_, rfl, by rw [eu.done]; rfl⟩
      refine W.nil ?_
      refine W.cons ?_
      refine W1.set 3 ?_ nd
      refine E.bin ?_
      refine E.callTy B.int bt_int ?_
      refine A.cons ?_
      refine E.var 0 rfl ?_
      refine A.nil ?_
      walk_at "cl"
      refine E.var 1 rfl ?_
      walk_at "o"
      walk_at "n"
      refine W.cons ?_
      refine W1.set 0 ?_ nd
      refine E.var 1 rfl ?_
      walk_at "n"
      refine W.cons ?_
      refine W1.set 1 ?_ nd
      refine E.var 3 rfl ?_
      walk_at "n"
      exact W.nil ⟨rfl, y, x % y, _, _, rfl, eu.step (by omega) h0, fun z => by omega⟩
    · rintro o ρ ⟨rfl, x, y, u, v, rfl, eu, _⟩
      rw [en] at eu
      exact ⟨rfl, _, _, _, _, rfl, by rw [eu.last]⟩
  rintro o ρ ⟨rfl, z, y, u, v, rfl, e⟩
  refine W.cons ?_
  refine W1.ret ?_
  refine E.var 0 rfl ?_
  exact ⟨_, rfl, by rw [e]; rfl⟩
end

section
variable {P : Program} {w : World} {K : PySem.W.Frag} {mg : Str → Option Value} {base : Heap} {C : Addr} {f : Addr} {fd : FuncData}
abbrev KTake (P : Program) (w : World) (K : PySem.W.Frag) (mg : Str → Option Value) (base : Heap) : Prop := DOk P w K mg base CX0 "_law_take" 1 (spP K PoolI preTake postTake)
def preNil : List D → Prop := fun ds => ds = []
def postSize : List D → D → Prop := fun _ d => ∃ r : Int, d = .int r ∧ 0 ≤ r ∧ r < 10 ^ 60
abbrev KSize (P : Program) (w : World) (K : PySem.W.Frag) (mg : Str → Option Value) (base : Heap) : Prop := DOk P w K mg base CX0 "_law_size" 2 (spP K PoolI preNil postSize)
theorem tkq {own : List Cell} {n : Nat} {m : Int} {Q : D → Prop} (hc : own[n]? = some (.any PoolI)) (hm : m.natAbs < 2 ^ 1000) (hm2 : 2 ≤ m) (h : ∀ r : Int, 0 ≤ r → r < m → Q (.int r)) :
    ∃ (n' : Nat) (ds : List D), (.c n :: [R.d (.int m)]) = .c n' :: ds.map R.d ∧ own[n']? = some (.any PoolI) ∧ preTake ds ∧ ∀ d, postTake ds d → Q d :=
  ⟨n, [.int m], rfl, hc, ⟨m, rfl, hm⟩, fun d ⟨m', r, e, ed, h0, h1, _⟩ => by
    cases e; subst ed; exact h r h0 (h1 hm2)⟩
theorem szq {own : List Cell} {n : Nat} {Q : D → Prop} (hc : own[n]? = some (.any PoolI)) (h : ∀ r : Int, 0 ≤ r → r < 10 ^ 60 → Q (.int r)) :
    ∃ (n' : Nat) (ds : List D), (.c n :: ([] : List R)) = .c n' :: ds.map R.d ∧ own[n']? = some (.any PoolI) ∧ preNil ds ∧ ∀ d, postSize ds d → Q d :=
  ⟨n, [], rfl, hc, rfl, fun d ⟨r, ed, h0, h1⟩ => by subst ed; exact h r h0 h1⟩
theorem bd60 {r : Int} (h0 : 0 ≤ r) (h1 : r < 10 ^ 60) : Bd 200 r := Bd.of_lt h0 h1 Bd.lit
abbrev sSize : Stmt := top 21
theorem scSize : FnScope ["pool", "kind", "number", "k"] ["pool"] (defScope sSize) := ⟨rfl, rfl, rfl, by decide +kernel, rfl, by decide +kernel, by decide +kernel⟩
theorem ok_size (F : Df K mg "_law_size" sSize ["pool"] f fd) (B : Bl mg) (GTake : KTake P w K mg base) : FnOk P w K mg base CX0 2 f fd ["pool"] (spP K PoolI preNil postSize) := by
  refine ok_P F.fn scSize (fun ds e => by rw [e]; rfl) fun cdv Ar outer sh Hp0 xE Fr ds hr e => ?_
  have nd := scSize.nd
  subst e
  show W _ _ _ _ _ [some (.c 0), none, none, none]
  refine W.cons ?_
  refine W1.set 1 ?_ nd
  refine E.dcallP GTake (hr.mono (by decide)) ?_
  refine A.cons ?_
  refine E.var 0 rfl ?_
  refine A.cons ?_
  refine E.int ?_
  refine A.nil ?_
  refine tkq rfl (by decide) (by decide) fun kd k0 k1 => ?_
  refine W.cons ?_
  refine W1.iff ?_
  refine T.cmp ?_
  refine E.var 1 rfl ?_
  refine E.int ?_
  walk_at "o"
  refine ⟨_, rfl, ?_⟩
  refine ifd (fun h => ?_) (fun h => ?_)
  · skip -- 167.0 of 1: return _law_take(pool, 10)
    refine W.cons ?_
    refine W1.ret ?_
    refine E.dcallP GTake (hr.mono (by decide)) ?_
    refine A.cons ?_
    refine E.var 0 rfl ?_
    refine A.cons ?_
    refine E.int ?_
    refine A.nil ?_
    refine tkq rfl (by decide) (by decide) fun r h0 h1 => ?_
    exact ⟨.inl rfl, _, rfl, r, rfl, h0, Int.lt_trans h1 (by decide)⟩
  refine W.nil ?_
  refine W.cons ?_
  refine W1.iff ?_
  refine T.cmp ?_
  refine E.var 1 rfl ?_
  refine E.int ?_
  walk_at "o"
  refine ⟨_, rfl, ?_⟩
  refine ifd (fun h => ?_) (fun h => ?_)
  · skip -- 169.0 of 1: return _law_take(pool, 1000)
    refine W.cons ?_
    refine W1.ret ?_
    refine E.dcallP GTake (hr.mono (by decide)) ?_
    refine A.cons ?_
    refine E.var 0 rfl ?_
    refine A.cons ?_
    refine E.int ?_
    refine A.nil ?_
    refine tkq rfl (by decide) (by decide) fun r h0 h1 => ?_
    exact ⟨.inl rfl, _, rfl, r, rfl, h0, Int.lt_trans h1 (by decide)⟩
  refine W.nil ?_
  refine W.cons ?_
  refine W1.iff ?_
  refine T.cmp ?_
  refine E.var 1 rfl ?_
  refine E.int ?_
  walk_at "o"
  refine ⟨_, rfl, ?_⟩
  refine ifd (fun h => ?_) (fun h => ?_)
  · skip -- 171.0 of 1: return _law_take(pool, 10 ** 60)
    refine W.cons ?_
    refine W1.ret ?_
    refine E.dcallP GTake (hr.mono (by decide)) ?_
    refine A.cons ?_
    refine E.var 0 rfl ?_
    refine A.cons ?_
    refine E.bin ?_
    refine E.int ?_
    refine E.int ?_
    walk_at "o"
    refine A.nil ?_
    refine tkq rfl (by decide) (by decide) fun r h0 h1 => ?_
    exact ⟨.inl rfl, _, rfl, r, rfl, h0, h1⟩
  refine W.nil ?_
  refine W.cons ?_
  refine W1.set 2 ?_ nd
  refine E.int ?_
  walk_at "n"
  refine W.cut (fun o r => o = [.any PoolI] ∧ ∃ (n : Int) (u v : Option R), r = [some (.c 0), u, some (.d (.int n)), v]) ?_ ?_
  · refine W1.forR (fun i o r => o = [.any PoolI] ∧ ∃ (n : Int) (u v : Option R), r = [some (.c 0), u, some (.d (.int n)), v]) B.range rfl PassesOwn.never ?_
    refine E.int ?_
    refine ⟨_, rfl, ⟨by decide, by decide⟩, ⟨rfl, _, _, _, rfl⟩, ?_, ?_⟩
    · rintro i o ρ hi ⟨rfl, n, u, v, rfl⟩
      refine Tg.name 3 ?_ nd
      refine W.cons ?_
      refine W1.set 2 ?_ nd
      refine E.bin ?_
      refine E.bin ?_
      refine E.var 2 rfl ?_
      refine E.bin ?_
      refine E.int ?_
      refine E.int ?_
      walk_at "o"
      walk_at "o"
      refine E.dcallP GTake (hr.mono (by decide)) ?_
      refine A.cons ?_
      refine E.var 0 rfl ?_
      refine A.cons ?_
      refine E.bin ?_
      refine E.int ?_
      refine E.int ?_
      walk_at "o"
      refine A.nil ?_
      refine tkq rfl (by decide) (by decide) fun r h0 h1 => ?_
      walk_at "o"
      walk_at "n"
      exact W.nil ⟨rfl, _, _, _, rfl⟩
    · rintro o ρ ⟨rfl, n, u, v, rfl⟩
      exact ⟨rfl, n, u, v, rfl⟩
  rintro o ρ ⟨rfl, n, u, v, rfl⟩
  refine W.cons ?_
  refine W1.ret ?_
  refine E.bin ?_
  refine E.callTy B.int bt_int ?_
  refine A.cons ?_
  refine E.var 2 rfl ?_
  refine A.nil ?_
  walk_at "cl"
  refine E.bin ?_
  refine E.int ?_
  refine E.int ?_
  walk_at "o"
  walk_at "o"
  exact ⟨.inl rfl, _, rfl, _, rfl, Int.emod_nonneg _ (by decide), Int.emod_lt_of_pos _ (by decide)⟩
def postFrac : List D → D → Prop := fun _ d => ∃ a b : Int, d = .tup [.int a, .int b] ∧ Bd 200 a ∧ Bd 200 b ∧ b ≠ 0
def FracM (kd : Int) : List Cell → Ro → Prop := fun o r => o = [.any PoolI] ∧ ∃ (a b : Int) (u : Option R), r = [some (.c 0), some (.d (.int a)), some (.d (.int b)), some (.d (.int kd)), u] ∧ Bd 200 a ∧ Bd 200 b ∧ b ≠ 0
theorem neg_ne {b : Int} (h : b ≠ 0) : -b ≠ 0 := by omega
abbrev sFraction : Stmt := top 22
theorem scFraction : FnScope ["pool", "above", "below", "kind", "factor"] ["pool"] (defScope sFraction) := ⟨rfl, rfl, rfl, by decide +kernel, rfl, by decide +kernel, by decide +kernel⟩
theorem ok_fraction (F : Df K mg "_law_fraction" sFraction ["pool"] f fd) (B : Bl mg) (GTake : KTake P w K mg base) (GSize : KSize P w K mg base) : FnOk P w K mg base CX0 3 f fd ["pool"] (spP K PoolI preNil postFrac) := by
  refine ok_P F.fn scFraction (fun ds e => by rw [e]; rfl) fun cdv Ar outer sh Hp0 xE Fr ds hr e => ?_
  have nd := scFraction.nd
  subst e
  show W _ _ _ _ _ [some (.c 0), none, none, none, none]
  refine W.cons ?_
  refine W1.set 1 ?_ nd
  refine E.dcallP GSize (hr.mono (by decide)) ?_
  refine A.cons ?_
  refine E.var 0 rfl ?_
  refine A.nil ?_
  refine szq rfl fun a h0 h1 => ?_
  walk_at "n"
  refine W.cons ?_
  refine W1.set 2 ?_ nd
  refine E.callB B.max bt_max ?_
  refine A.cons ?_
  refine E.int ?_
  refine A.cons ?_
  refine E.dcallP GSize (hr.mono (by decide)) ?_
  refine A.cons ?_
  refine E.var 0 rfl ?_
  refine A.nil ?_
  refine szq rfl fun b g0 g1 => ?_
  refine A.nil ?_
  walk_at "cl"
  walk_at "n"
  refine W.cons ?_
  refine W1.set 3 ?_ nd
  refine E.dcallP GTake (hr.mono (by decide)) ?_
  refine A.cons ?_
  refine E.var 0 rfl ?_
  refine A.cons ?_
  refine E.int ?_
  refine A.nil ?_
  refine tkq rfl (by decide) (by decide) fun kd k0 k1 => ?_
  walk_at "n"
  have hA := bd60 h0 h1
  have hB : Bd 200 (if 1 < b then b else 1) := Bd.max1 (bd60 g0 g1)
  have hB0 : (if 1 < b then b else 1) ≠ 0 := max1_ne
  generalize (if 1 < b then b else 1) = b at *
  refine W.cut (FracM kd) ?_ ?_
  · skip -- 180.0 of 0: if kind == 0:
    refine W1.iff ?_
    refine T.cmp ?_
    refine E.var 3 rfl ?_
    refine E.int ?_
    walk_at "o"
    refine ⟨_, rfl, ?_⟩
    refine ifd (fun h => ?_) (fun h => ?_)
    · skip -- 181.0 of 0: above = 0
      refine W.cons ?_
      refine W1.set 1 ?_ nd
      refine E.int ?_
      walk_at "n"
      exact W.nil ⟨rfl, _, _, _, rfl, Bd.lit, hB, hB0⟩
    · exact W.nil ⟨rfl, _, _, _, rfl, hA, hB, hB0⟩
  clear hA hB hB0 h0 h1 g0 g1
  rintro o ρ ⟨rfl, a, b, u, rfl, hA, hB, hB0⟩
  have c1 : Bd 100 (a % 10 ^ Int.toNat 30) := Bd.mod (by decide) Bd.lit
  have c2 : Bd 100 (if 1 < b % 10 ^ Int.toNat 30 then b % 10 ^ Int.toNat 30 else 1) := Bd.max1 (Bd.mod (by decide) Bd.lit)
  have c3 : (if 1 < b % 10 ^ Int.toNat 30 then b % 10 ^ Int.toNat 30 else 1) ≠ 0 := max1_ne
  have c1' := c1.mono (show 100 ≤ 4000 by decide)
  have c2' := c2.mono (show 100 ≤ 4000 by decide)
  refine W.cut (FracM kd) ?_ ?_
  · skip -- 182.0 of 1: if kind == 1 or kind == 2:
    refine W1.iff ?_
    refine Tw.t ?_
    refine Tw.or ?_
    refine T.cmp ?_
    refine E.var 3 rfl ?_
    refine E.int ?_
    walk_at "o"
    refine ⟨_, rfl, ?_⟩
    refine ifd (fun h => iteT ?_) (fun h => ?_)
    · skip -- 183.0 of 1: factor = max(1, int(_law_size(pool)) % 10 ** 30)
      refine W.cons ?_
      refine W1.set 4 ?_ nd
      refine E.callB B.max bt_max ?_
      refine A.cons ?_
      refine E.int ?_
      refine A.cons ?_
      refine E.bin ?_
      refine E.callTy B.int bt_int ?_
      refine A.cons ?_
      refine E.dcallP GSize (hr.mono (by decide)) ?_
      refine A.cons ?_
      refine E.var 0 rfl ?_
      refine A.nil ?_
      refine szq rfl fun s g0 g1 => ?_
      refine A.nil ?_
      walk_at "cl"
      refine E.bin ?_
      refine E.int ?_
      refine E.int ?_
      walk_at "o"
      walk_at "o"
      refine A.nil ?_
      walk_at "cl"
      walk_at "n"
      have d1 : Bd 100 (if 1 < s % 10 ^ Int.toNat 30 then s % 10 ^ Int.toNat 30 else 1) := Bd.max1 (Bd.mod (by decide) Bd.lit)
      have d2 : (if 1 < s % 10 ^ Int.toNat 30 then s % 10 ^ Int.toNat 30 else 1) ≠ 0 := max1_ne
      have d1' := d1.mono (show 100 ≤ 4000 by decide)
      refine W.cons ?_
      refine W1.set 1 ?_ nd
      refine E.bin ?_
      refine E.bin ?_
      refine E.callTy B.int bt_int ?_
      refine A.cons ?_
      refine E.var 1 rfl ?_
      refine A.nil ?_
      walk_at "cl"
      refine E.bin ?_
      refine E.int ?_
      refine E.int ?_
      walk_at "o"
      walk_at "o"
      refine E.var 4 rfl ?_
      walk_at "o"
      walk_at "n"
      refine W.cons ?_
      refine W1.set 2 ?_ nd
      refine E.bin ?_
      refine E.callB B.max bt_max ?_
      refine A.cons ?_
      refine E.int ?_
      refine A.cons ?_
      refine E.bin ?_
      refine E.callTy B.int bt_int ?_
      refine A.cons ?_
      refine E.var 2 rfl ?_
      refine A.nil ?_
      walk_at "cl"
      refine E.bin ?_
      refine E.int ?_
      refine E.int ?_
      walk_at "o"
      walk_at "o"
      refine A.nil ?_
      walk_at "cl"
      refine E.var 4 rfl ?_
      walk_at "o"
      walk_at "n"
      exact W.nil ⟨rfl, _, _, _, rfl, c1.mul d1, c2.mul d1, Int.mul_ne_zero c3 d2⟩
    · skip -- 182.1 of 1: if kind == 1 or kind == 2:
      refine Tw.or1 ?_
      refine T.cmp ?_
      refine E.var 3 rfl ?_
      refine E.int ?_
      walk_at "o"
      refine ⟨_, rfl, ?_⟩
      refine ifd (fun h => ?_) (fun h => ?_)
      · skip -- 183.0 of 1: factor = max(1, int(_law_size(pool)) % 10 ** 30)
        refine W.cons ?_
        refine W1.set 4 ?_ nd
        refine E.callB B.max bt_max ?_
        refine A.cons ?_
        refine E.int ?_
        refine A.cons ?_
        refine E.bin ?_
        refine E.callTy B.int bt_int ?_
        refine A.cons ?_
        refine E.dcallP GSize (hr.mono (by decide)) ?_
        refine A.cons ?_
        refine E.var 0 rfl ?_
        refine A.nil ?_
        refine szq rfl fun s g0 g1 => ?_
        refine A.nil ?_
        walk_at "cl"
        refine E.bin ?_
        refine E.int ?_
        refine E.int ?_
        walk_at "o"
        walk_at "o"
        refine A.nil ?_
        walk_at "cl"
        walk_at "n"
        have d1 : Bd 100 (if 1 < s % 10 ^ Int.toNat 30 then s % 10 ^ Int.toNat 30 else 1) := Bd.max1 (Bd.mod (by decide) Bd.lit)
        have d2 : (if 1 < s % 10 ^ Int.toNat 30 then s % 10 ^ Int.toNat 30 else 1) ≠ 0 := max1_ne
        have d1' := d1.mono (show 100 ≤ 4000 by decide)
        refine W.cons ?_
        refine W1.set 1 ?_ nd
        refine E.bin ?_
        refine E.bin ?_
        refine E.callTy B.int bt_int ?_
        refine A.cons ?_
        refine E.var 1 rfl ?_
        refine A.nil ?_
        walk_at "cl"
        refine E.bin ?_
        refine E.int ?_
        refine E.int ?_
        walk_at "o"
        walk_at "o"
        refine E.var 4 rfl ?_
        walk_at "o"
        walk_at "n"
        refine W.cons ?_
        refine W1.set 2 ?_ nd
        refine E.bin ?_
        refine E.callB B.max bt_max ?_
        refine A.cons ?_
        refine E.int ?_
        refine A.cons ?_
        refine E.bin ?_
        refine E.callTy B.int bt_int ?_
        refine A.cons ?_
        refine E.var 2 rfl ?_
        refine A.nil ?_
        walk_at "cl"
        refine E.bin ?_
        refine E.int ?_
        refine E.int ?_
        walk_at "o"
        walk_at "o"
        refine A.nil ?_
        walk_at "cl"
        refine E.var 4 rfl ?_
        walk_at "o"
        walk_at "n"
        exact W.nil ⟨rfl, _, _, _, rfl, c1.mul d1, c2.mul d1, Int.mul_ne_zero c3 d2⟩
      · exact W.nil ⟨rfl, _, _, _, rfl, hA, hB, hB0⟩
  clear hA hB hB0 c1 c2 c3 c1' c2'
  rintro o ρ ⟨rfl, a, b, u, rfl, hA, hB, hB0⟩
  refine W.cut (FracM kd) ?_ ?_
  · skip -- 186.0 of 0: if kind == 3:
    refine W1.iff ?_
    refine T.cmp ?_
    refine E.var 3 rfl ?_
    refine E.int ?_
    walk_at "o"
    refine ⟨_, rfl, ?_⟩
    refine ifd (fun h => ?_) (fun h => ?_)
    · skip -- 187.0 of 0: below = 1
      refine W.cons ?_
      refine W1.set 2 ?_ nd
      refine E.int ?_
      walk_at "n"
      exact W.nil ⟨rfl, _, _, _, rfl, hA, Bd.lit, by decide⟩
    · exact W.nil ⟨rfl, _, _, _, rfl, hA, hB, hB0⟩
  clear hA hB hB0
  rintro o ρ ⟨rfl, a, b, u, rfl, hA, hB, hB0⟩
  refine W.cut (FracM kd) ?_ ?_
  · skip -- 188.0 of 1: if _law_take(pool, 2) == 1:
    refine W1.iff ?_
    refine T.cmp ?_
    refine E.dcallP GTake (hr.mono (by decide)) ?_
    refine A.cons ?_
    refine E.var 0 rfl ?_
    refine A.cons ?_
    refine E.int ?_
    refine A.nil ?_
    refine tkq rfl (by decide) (by decide) fun r h0 h1 => ?_
    refine E.int ?_
    walk_at "o"
    refine ⟨_, rfl, ?_⟩
    refine ifd (fun h => ?_) (fun h => ?_)
    · skip -- 189.0 of 0: above = -above
      refine W.cons ?_
      refine W1.set 1 ?_ nd
      refine E.un ?_
      refine E.var 1 rfl ?_
      walk_at "u"
      walk_at "n"
      exact W.nil ⟨rfl, _, _, _, rfl, hA.neg, hB, hB0⟩
    · exact W.nil ⟨rfl, _, _, _, rfl, hA, hB, hB0⟩
  clear hA hB hB0
  rintro o ρ ⟨rfl, a, b, u, rfl, hA, hB, hB0⟩
  refine W.cut (FracM kd) ?_ ?_
  · skip -- 190.0 of 1: if _law_take(pool, 4) == 1:
    refine W1.iff ?_
    refine T.cmp ?_
    refine E.dcallP GTake (hr.mono (by decide)) ?_
    refine A.cons ?_
    refine E.var 0 rfl ?_
    refine A.cons ?_
    refine E.int ?_
    refine A.nil ?_
    refine tkq rfl (by decide) (by decide) fun r h0 h1 => ?_
    refine E.int ?_
    walk_at "o"
    refine ⟨_, rfl, ?_⟩
    refine ifd (fun h => ?_) (fun h => ?_)
    · skip -- 191.0 of 0: below = -below
      refine W.cons ?_
      refine W1.set 2 ?_ nd
      refine E.un ?_
      refine E.var 2 rfl ?_
      walk_at "u"
      walk_at "n"
      exact W.nil ⟨rfl, _, _, _, rfl, hA, hB.neg, neg_ne hB0⟩
    · exact W.nil ⟨rfl, _, _, _, rfl, hA, hB, hB0⟩
  clear hA hB hB0
  rintro o ρ ⟨rfl, a, b, u, rfl, hA, hB, hB0⟩
  refine W.cons ?_
  refine W1.ret ?_
  refine E.tup ?_
  refine A.cons ?_
  refine E.var 1 rfl ?_
  refine A.cons ?_
  refine E.var 2 rfl ?_
  refine A.nil ?_
  walk_at "disp"
  exact ⟨.inl rfl, _, rfl, a, b, rfl, hA, hB, hB0⟩
abbrev KFrac (P : Program) (w : World) (K : PySem.W.Frag) (mg : Str → Option Value) (base : Heap) : Prop := DOk P w K mg base CX0 "_law_fraction" 3 (spP K PoolI preNil postFrac)
def preT : List D → Prop := fun ds => ∃ a b : Int, ds = [.tup [.int a, .int b]] ∧ Bd 200 a ∧ Bd 200 b ∧ b ≠ 0
def postSec : List D → D → Prop := fun _ d => ∃ a b : Int, d = .tup [.int a, .int b] ∧ Bd 220 a ∧ Bd 220 b ∧ b ≠ 0
abbrev sSecond : Stmt := top 23
theorem scSecond : FnScope ["pool", "one", "kind", "factor"] ["pool", "one"] (defScope sSecond) := ⟨rfl, rfl, rfl, by decide +kernel, rfl, by decide +kernel, by decide +kernel⟩
theorem ok_second (F : Df K mg "_law_second" sSecond ["pool", "one"] f fd) (B : Bl mg) (GTake : KTake P w K mg base) (GFrac : KFrac P w K mg base) : FnOk P w K mg base CX0 4 f fd ["pool", "one"] (spP K PoolI preT postSec) := by
  refine ok_P F.fn scSecond (fun ds ⟨_, _, e, _⟩ => by rw [e]; rfl) fun cdv Ar outer sh Hp0 xE Fr ds hr ⟨a, b, e, hA, hB, hB0⟩ => ?_
  have nd := scSecond.nd
  subst e
  show W _ _ _ _ _ [some (.c 0), some (.d (.tup [.int a, .int b])), none, none]
  have hA4 := hA.mono (show 200 ≤ 4000 by decide)
  have hB4 := hB.mono (show 200 ≤ 4000 by decide)
  have fin : ∀ x y : Int, Bd 220 x → Bd 220 y → y ≠ 0 → ∀ own, own = [.any PoolI] → CellI PoolI own ∧ ∃ d, R.d (.tup [.int x, .int y]) = R.d d ∧ postSec [.tup [.int a, .int b]] d := fun x y h1 h2 h3 own e => ⟨.inl (by rw [e]; rfl), _, rfl, x, y, rfl, h1, h2, h3⟩
  refine W.cons ?_
  refine W1.set 2 ?_ nd
  refine E.dcallP GTake (hr.mono (by decide)) ?_
  refine A.cons ?_
  refine E.var 0 rfl ?_
  refine A.cons ?_
  refine E.int ?_
  refine A.nil ?_
  refine tkq rfl (by decide) (by decide) fun kd k0 k1 => ?_
  walk_at "n"
  refine W.cut (fun o r => o = [.any PoolI] ∧ r = [some (.c 0), some (.d (.tup [.int a, .int b])), some (.d (.int kd)), none]) ?_ ?_
  · skip -- 195.0 of 2: if kind < 2 and abs(one[0]) < 10 ** 58 and (abs(one[1]) < 10 ** 58):
    refine W1.iff ?_
    refine Tw.t ?_
    refine Tw.and ?_
    refine T.cmp ?_
    refine E.var 2 rfl ?_
    refine E.int ?_
    walk_at "o"
    refine ⟨_, rfl, ?_⟩
    refine ifd (fun h => ?_) (fun h => iteF (W.nil ⟨rfl, rfl⟩))
    refine Tw.and ?_
    refine T.cmp ?_
    refine E.callB B.abs bt_abs ?_
    refine A.cons ?_
    refine E.ix ?_
    refine E.var 1 rfl ?_
    refine E.int ?_
    walk_at "ix"
    refine A.nil ?_
    walk_at "cl"
    refine E.bin ?_
    refine E.int ?_
    refine E.int ?_
    walk_at "o"
    walk_at "o"
    refine ⟨_, rfl, ?_⟩
    generalize (10 : Int) ^ Int.toNat 58 = z58
    refine ifd (fun h => ?_) (fun h => iteF (W.nil ⟨rfl, rfl⟩))
    refine Tw.and1 ?_
    refine T.cmp ?_
    refine E.callB B.abs bt_abs ?_
    refine A.cons ?_
    refine E.ix ?_
    refine E.var 1 rfl ?_
    refine E.int ?_
    walk_at "ix"
    refine A.nil ?_
    walk_at "cl"
    refine E.bin ?_
    refine E.int ?_
    refine E.int ?_
    walk_at "o"
    walk_at "o"
    refine ⟨_, rfl, ?_⟩
    generalize (10 : Int) ^ Int.toNat 58 = z58
    refine ifd (fun h => ?_) (fun h => W.nil ⟨rfl, rfl⟩)
    refine W.cons ?_
    refine W1.set 3 ?_ nd
    refine E.bin ?_
    refine E.int ?_
    refine E.dcallP GTake (hr.mono (by decide)) ?_
    refine A.cons ?_
    refine E.var 0 rfl ?_
    refine A.cons ?_
    refine E.int ?_
    refine A.nil ?_
    refine tkq rfl (by decide) (by decide) fun fa h0 h1 => ?_
    walk_at "o"
    walk_at "n"
    have hF : Bd 7 (1 + fa) := Bd.of_lt (m := 100) (by omega) (by omega) Bd.lit
    have hF4 := hF.mono (show 7 ≤ 4000 by decide)
    refine W.cons ?_
    refine W1.ret ?_
    refine E.tup ?_
    refine A.cons ?_
    refine E.bin ?_
    refine E.bin ?_
    refine E.bin ?_
    refine E.ix ?_
    refine E.var 1 rfl ?_
    refine E.int ?_
    walk_at "ix"
    refine E.var 3 rfl ?_
    walk_at "o"
    refine E.dcallP GTake (hr.mono (by decide)) ?_
    refine A.cons ?_
    refine E.var 0 rfl ?_
    refine A.cons ?_
    refine E.int ?_
    refine A.nil ?_
    refine tkq rfl (by decide) (by decide) fun t h0 h1 => ?_
    walk_at "o"
    refine E.int ?_
    walk_at "o"
    refine A.cons ?_
    refine E.bin ?_
    refine E.ix ?_
    refine E.var 1 rfl ?_
    refine E.int ?_
    walk_at "ix"
    refine E.var 3 rfl ?_
    walk_at "o"
    refine A.nil ?_
    walk_at "disp"
    have hT : Bd 7 t := Bd.of_lt (m := 100) (by omega) (by omega) Bd.lit
    exact fin _ _ ((((hA.mul hF).add hT).sub (Bd.lit (k := 1) (x := 1))).mono (by decide)) ((hB.mul hF).mono (by decide)) (Int.mul_ne_zero hB0 (by omega)) _ rfl
  rintro o ρ ⟨rfl, rfl⟩
  refine W.cons ?_
  refine W1.iff ?_
  refine T.cmp ?_
  refine E.var 2 rfl ?_
  refine E.int ?_
  walk_at "o"
  refine ⟨_, rfl, ?_⟩
  refine ifd (fun h => ?_) (fun h => ?_)
  · skip -- 199.0 of 0: return (-one[0], -one[1])
    refine W.cons ?_
    refine W1.ret ?_
    refine E.tup ?_
    refine A.cons ?_
    refine E.un ?_
    refine E.ix ?_
    refine E.var 1 rfl ?_
    refine E.int ?_
    walk_at "ix"
    walk_at "u"
    refine A.cons ?_
    refine E.un ?_
    refine E.ix ?_
    refine E.var 1 rfl ?_
    refine E.int ?_
    walk_at "ix"
    walk_at "u"
    refine A.nil ?_
    walk_at "disp"
    exact fin _ _ (hA.neg.mono (by decide)) (hB.neg.mono (by decide)) (neg_ne hB0) _ rfl
  refine W.nil ?_
  refine W.cons ?_
  refine W1.iff ?_
  refine T.cmp ?_
  refine E.var 2 rfl ?_
  refine E.int ?_
  walk_at "o"
  refine ⟨_, rfl, ?_⟩
  refine ifd (fun h => ?_) (fun h => ?_)
  · skip -- 201.0 of 0: return (-one[0], one[1])
    refine W.cons ?_
    refine W1.ret ?_
    refine E.tup ?_
    refine A.cons ?_
    refine E.un ?_
    refine E.ix ?_
    refine E.var 1 rfl ?_
    refine E.int ?_
    walk_at "ix"
    walk_at "u"
    refine A.cons ?_
    refine E.ix ?_
    refine E.var 1 rfl ?_
    refine E.int ?_
    walk_at "ix"
    refine A.nil ?_
    walk_at "disp"
    exact fin _ _ (hA.neg.mono (by decide)) (hB.mono (by decide)) hB0 _ rfl
  refine W.nil ?_
  refine W.cut (fun o r => o = [.any PoolI] ∧ r = [some (.c 0), some (.d (.tup [.int a, .int b])), some (.d (.int kd)), none]) ?_ ?_
  · skip -- 202.0 of 1: if kind == 3 and one[0] != 0:
    refine W1.iff ?_
    refine Tw.t ?_
    refine Tw.and ?_
    refine T.cmp ?_
    refine E.var 2 rfl ?_
    refine E.int ?_
    walk_at "o"
    refine ⟨_, rfl, ?_⟩
    refine ifd (fun h => ?_) (fun h => iteF (W.nil ⟨rfl, rfl⟩))
    refine Tw.and1 ?_
    refine T.cmp ?_
    refine E.ix ?_
    refine E.var 1 rfl ?_
    refine E.int ?_
    walk_at "ix"
    refine E.int ?_
    walk_at "o"
    refine ⟨_, rfl, ?_⟩
    refine ifn (fun h => ?_) (fun h => W.nil ⟨rfl, rfl⟩)
    refine W.cons ?_
    refine W1.ret ?_
    refine E.tup ?_
    refine A.cons ?_
    refine E.ix ?_
    refine E.var 1 rfl ?_
    refine E.int ?_
    walk_at "ix"
    refine A.cons ?_
    refine E.ix ?_
    refine E.var 1 rfl ?_
    refine E.int ?_
    walk_at "ix"
    refine A.nil ?_
    walk_at "disp"
    exact fin _ _ (hB.mono (by decide)) (hA.mono (by decide)) h _ rfl
  rintro o ρ ⟨rfl, rfl⟩
  refine W.cons ?_
  refine W1.ret ?_
  refine E.dcallP GFrac (hr.mono (by decide)) ?_
  refine A.cons ?_
  refine E.var 0 rfl ?_
  refine A.nil ?_
  refine ⟨0, [], rfl, rfl, rfl, ?_⟩
  rintro d ⟨x, y, rfl, h1, h2, h3⟩
  exact fin _ _ (h1.mono (by decide)) (h2.mono (by decide)) h3 _ rfl
abbrev sBeside : Stmt := top 24
theorem scBeside : FnScope ["pool", "one", "kind", "number"] ["pool", "one"] (defScope sBeside) := ⟨rfl, rfl, rfl, by decide +kernel, rfl, by decide +kernel, by decide +kernel⟩
def postBes : List D → D → Prop := fun _ d => ∃ i : Int, d = .int i ∧ Bd 220 i
theorem ok_beside (F : Df K mg "_law_beside" sBeside ["pool", "one"] f fd) (B : Bl mg) (GTake : KTake P w K mg base) (GSize : KSize P w K mg base) : FnOk P w K mg base CX0 3 f fd ["pool", "one"] (spP K PoolI preT postBes) := by
  refine ok_P F.fn scBeside (fun ds ⟨_, _, e, _⟩ => by rw [e]; rfl) fun cdv Ar outer sh Hp0 xE Fr ds hr ⟨a, b, e, hA, hB, hB0⟩ => ?_
  have nd := scBeside.nd
  subst e
  show W _ _ _ _ _ [some (.c 0), some (.d (.tup [.int a, .int b])), none, none]
  have fin : ∀ x : Int, Bd 220 x → ∀ own, own = [.any PoolI] → CellI PoolI own ∧ ∃ d, R.d (.int x) = R.d d ∧ postBes [.tup [.int a, .int b]] d := fun x h1 own e => ⟨.inl (by rw [e]; rfl), _, rfl, x, rfl, h1⟩
  have hC : CDivA a b := ⟨hB0, hB.mono (by decide)⟩
  refine W.cons ?_
  refine W1.set 2 ?_ nd
  refine E.dcallP GTake (hr.mono (by decide)) ?_
  refine A.cons ?_
  refine E.var 0 rfl ?_
  refine A.cons ?_
  refine E.int ?_
  refine A.nil ?_
  refine tkq rfl (by decide) (by decide) fun kd k0 k1 => ?_
  walk_at "n"
  refine W.cons ?_
  refine W1.iff ?_
  refine T.cmp ?_
  refine E.var 2 rfl ?_
  refine E.int ?_
  walk_at "o"
  refine ⟨_, rfl, ?_⟩
  refine ifd (fun h => ?_) (fun h => ?_)
  · skip -- 208.0 of 0: return one[0]
    refine W.cons ?_
    refine W1.ret ?_
    refine E.ix ?_
    refine E.var 1 rfl ?_
    refine E.int ?_
    walk_at "ix"
    exact fin _ (hA.mono (by decide)) _ rfl
  refine W.nil ?_
  refine W.cons ?_
  refine W1.iff ?_
  refine T.cmp ?_
  refine E.var 2 rfl ?_
  refine E.int ?_
  walk_at "o"
  refine ⟨_, rfl, ?_⟩
  refine ifd (fun h => ?_) (fun h => ?_)
  · skip -- 210.0 of 0: return one[0] // one[1]
    refine W.cons ?_
    refine W1.ret ?_
    refine E.bin ?_
    refine E.ix ?_
    refine E.var 1 rfl ?_
    refine E.int ?_
    walk_at "ix"
    refine E.ix ?_
    refine E.var 1 rfl ?_
    refine E.int ?_
    walk_at "ix"
    walk_at "o"
    exact fin _ ((hA.le (fdiv_abs hB0)).mono (by decide)) _ rfl
  refine W.nil ?_
  refine W.cons ?_
  refine W1.iff ?_
  refine T.cmp ?_
  refine E.var 2 rfl ?_
  refine E.int ?_
  walk_at "o"
  refine ⟨_, rfl, ?_⟩
  refine ifd (fun h => ?_) (fun h => ?_)
  · skip -- 212.0 of 0: return 0
    refine W.cons ?_
    refine W1.ret ?_
    refine E.int ?_
    exact fin _ Bd.lit _ rfl
  refine W.nil ?_
  refine W.cons ?_
  refine W1.set 3 ?_ nd
  refine E.dcallP GSize (hr.mono (by decide)) ?_
  refine A.cons ?_
  refine E.var 0 rfl ?_
  refine A.nil ?_
  refine szq rfl fun s h0 h1 => ?_
  walk_at "n"
  have hS := (bd60 h0 h1).mono (show 200 ≤ 220 by decide)
  refine W.cons ?_
  refine W1.iff ?_
  refine T.cmp ?_
  refine E.dcallP GTake (hr.mono (by decide)) ?_
  refine A.cons ?_
  refine E.var 0 rfl ?_
  refine A.cons ?_
  refine E.int ?_
  refine A.nil ?_
  refine tkq rfl (by decide) (by decide) fun r h0 h1 => ?_
  refine E.int ?_
  walk_at "o"
  refine ⟨_, rfl, ?_⟩
  refine ifd (fun h => ?_) (fun h => ?_)
  · skip -- 215.0 of 0: return -number
    refine W.cons ?_
    refine W1.ret ?_
    refine E.un ?_
    refine E.var 3 rfl ?_
    walk_at "u"
    exact fin _ hS.neg _ rfl
  refine W.nil ?_
  refine W.cons ?_
  refine W1.ret ?_
  refine E.var 3 rfl ?_
  exact fin _ hS _ rfl
end

theorem nrm_pos_ne {t b p q : Int} (h : Nrm t b p q) : q ≠ 0 := by have := h.1; omega
theorem okn {k j : Nat} {t b p q : Int} (h : Nrm t b p q) (hb : b ≠ 0) (h1 : Bd k t) (h2 : Bd j b) (hk : k ≤ 4000 := by decide) (hj : j ≤ 4000 := by decide) : Ok p q := ⟨h.1, (h1.le (h.le hb).1).mono hk, (h2.le (h.le hb).2).mono hj⟩
def sde (a b : Int) : Int := if a = 0 then 0 else if (decide (0 < a) == decide (0 < b)) = true then 1 else -1
theorem sgn_sde {a b n d : Int} (h : Nrm a b n d) (hb : b ≠ 0) : sgn n = sde a b := by
  have hd := h.1
  have e := h.2.1
  unfold sgn sde
  by_cases ha : a = 0
  · subst ha
    rw [Int.zero_mul] at e
    have : n = 0 := (Int.mul_eq_zero.mp e).resolve_right hb
    subst this
    rfl
  · rw [if_neg ha]
    have s := congrArg Int.sign e
    rw [Int.sign_mul, Int.sign_mul, Int.sign_eq_one_of_pos hd, Int.mul_one] at s
    rcases Int.lt_or_gt_of_ne hb with hb | hb <;> rcases Int.lt_or_gt_of_ne ha with ha | ha
    · rw [Int.sign_eq_neg_one_of_neg hb, Int.sign_eq_neg_one_of_neg ha] at s
      have s : n.sign = 1 := by omega
      have hn := Int.sign_eq_one_iff_pos.mp s
      rw [if_neg (by omega), if_pos hn, decide_eq_false (by omega), decide_eq_false (by omega)]; rfl
    · rw [Int.sign_eq_neg_one_of_neg hb, Int.sign_eq_one_of_pos ha] at s
      have s : n.sign = -1 := by omega
      have hn := Int.sign_eq_neg_one_iff_neg.mp s
      rw [if_pos hn, decide_eq_true ha, decide_eq_false (by omega)]; rfl
    · rw [Int.sign_eq_one_of_pos hb, Int.sign_eq_neg_one_of_neg ha] at s
      have s : n.sign = -1 := by omega
      have hn := Int.sign_eq_neg_one_iff_neg.mp s
      rw [if_pos hn, decide_eq_false (by omega), decide_eq_true hb]; rfl
    · rw [Int.sign_eq_one_of_pos hb, Int.sign_eq_one_of_pos ha] at s
      have s : n.sign = 1 := by omega
      have hn := Int.sign_eq_one_iff_pos.mp s
      rw [if_neg (by omega), if_pos hn, decide_eq_true ha, decide_eq_true hb]; rfl
theorem sde_neg {a b : Int} : sde (-a) b = -sde a b := by
  unfold sde
  by_cases ha : a = 0
  · subst ha; rfl
  · rw [if_neg ha, if_neg (by omega)]
    by_cases h : 0 < a
    · rw [decide_eq_true h, decide_eq_false (by omega : ¬ 0 < -a)]
      cases decide (0 < b) <;> rfl
    · rw [decide_eq_false h, decide_eq_true (by omega : 0 < -a)]
      cases decide (0 < b) <;> rfl
/-- equal fractions have equal lowest terms -/
theorem nrm_eq {a b c e n d m k : Int} (h1 : Nrm a b n d) (h2 : Nrm c e m k) (hb : b ≠ 0) (he : e ≠ 0) : (n = m ∧ d = k) ↔ a * e = c * b := by
  obtain ⟨hd, e1, g1⟩ := h1
  obtain ⟨hk, e2, g2⟩ := h2
  constructor
  · rintro ⟨rfl, rfl⟩
    refine Int.eq_of_mul_eq_mul_right (show d ≠ 0 by omega) ?_
    grind
  · intro h
    have hx : n * k = m * d := by
      refine Int.eq_of_mul_eq_mul_right (Int.mul_ne_zero hb he) ?_
      grind
    have hN : n.natAbs * k.natAbs = m.natAbs * d.natAbs := by rw [← Int.natAbs_mul, ← Int.natAbs_mul, hx]
    have d1 : d.natAbs ∣ k.natAbs := Nat.Coprime.dvd_of_dvd_mul_left (m := n.natAbs) (by rw [Nat.Coprime, Nat.gcd_comm]; exact g1) ⟨m.natAbs, by rw [hN, Nat.mul_comm]⟩
    have d2 : k.natAbs ∣ d.natAbs := Nat.Coprime.dvd_of_dvd_mul_left (m := m.natAbs) (by rw [Nat.Coprime, Nat.gcd_comm]; exact g2) ⟨n.natAbs, by rw [← hN, Nat.mul_comm]⟩
    have e0 := Nat.dvd_antisymm d1 d2
    have ek : d = k := by omega
    subst ek
    exact ⟨Int.eq_of_mul_eq_mul_right (show d ≠ 0 by omega) hx, rfl⟩
theorem nrm_zero {a b n d : Int} (h : Nrm a b n d) (hb : b ≠ 0) : n = 0 ↔ a = 0 := by
  obtain ⟨hd, e, _⟩ := h
  constructor
  · rintro rfl
    rw [Int.zero_mul] at e
    exact (Int.mul_eq_zero.mp e.symm).resolve_right (by omega)
  · rintro rfl
    rw [Int.zero_mul] at e
    exact (Int.mul_eq_zero.mp e).resolve_right hb

section
variable {P : Program} {w : World} {K : PySem.W.Frag} {mg : Str → Option Value} {base : Heap} {C : Addr} {f : Addr} {fd : FuncData}
def preRight (C : Addr) : List D → Prop := fun ds => ∃ n d a b : Int, ds = [rat C n d, .tup [.int a, .int b]] ∧ Nrm a b n d ∧ b ≠ 0 ∧ Bd 4000 a ∧ Bd 4000 b
abbrev isTrue1 : List D → D → Prop := fun _ r => r = .bl true
abbrev KInt (P : Program) (w : World) (K : PySem.W.Frag) (mg : Str → Option Value) (base : Heap) : Prop := DOk P w K mg base CX0 "_law_integer" 1 (spF K (fun ds => ∃ i, ds = [.int i]) isTrue1)
abbrev KCom (P : Program) (w : World) (K : PySem.W.Frag) (mg : Str → Option Value) (base : Heap) : Prop := DOk P w K mg base CX0 "_law_common" 1 (spF K preCom postCom)
abbrev sRight : Stmt := top 25
theorem scRight : FnScope ["told", "due"] ["told", "due"] (defScope sRight) := ⟨rfl, rfl, rfl, by decide +kernel, rfl, by decide +kernel, by decide +kernel⟩
theorem ok_right (F : Df K mg "_law_right" sRight ["told", "due"] f fd) (B : Bl mg) (tR : RatT K mg C) (GInt : KInt P w K mg base) (GCom : KCom P w K mg base) : FnOk P w K mg base CX0 2 f fd ["told", "due"] (spF K (preRight C) isTrue1) := by
  refine ok_F F.fn scRight (fun ds ⟨_, _, _, _, e, _⟩ => by rw [e]; rfl) fun cdv Ar outer sh Hp0 xE Fr ds hr hm ⟨n, d, a, b, e, hn, hb, bA, bB⟩ => ?_
  have nd := scRight.nd
  have q1 := tR.isc
  have q2 := tR.kRR
  subst e
  have ok := okn hn hb bA bB
  have bN := ok.2.1
  have bD := ok.2.2
  have hd := hn.1
  show W _ _ _ _ _ [some (.d (rat C n d)), some (.d (.tup [.int a, .int b]))]
  refine W.cons ?_
  refine W1.iff ?_
  refine Tw.t ?_
  refine Tw.or ?_
  refine T.not ?_
  refine T.truth ?_
  refine E.callB B.isinstance bt_isinstance ?_
  refine A.cons ?_
  refine E.var 0 rfl ?_
  refine A.cons ?_
  refine E.globR tR.mgR ?_
  refine A.nil ?_
  walk_at "cl"
  walk_at "tr"
  refine iteF ?_
  refine Tw.or ?_
  refine T.not ?_
  refine T.truth ?_
  refine E.dcall GInt (hr.mono (by decide)) ?_
  refine A.cons ?_
  refine E.fld ?_
  refine E.var 0 rfl ?_
  refine ⟨_, _, _, _, rfl, tR.cls, tR.nt, rfl, ?_⟩
  refine A.nil ?_
  refine ⟨[.int _], rfl, ⟨_, rfl⟩, ?_⟩
  rintro r rfl
  walk_at "tr"
  refine iteF ?_
  refine Tw.or1 ?_
  refine T.not ?_
  refine T.truth ?_
  refine E.dcall GInt (hr.mono (by decide)) ?_
  refine A.cons ?_
  refine E.fld ?_
  refine E.var 0 rfl ?_
  refine ⟨_, _, _, _, rfl, tR.cls, tR.nb, rfl, ?_⟩
  refine A.nil ?_
  refine ⟨[.int _], rfl, ⟨_, rfl⟩, ?_⟩
  rintro r rfl
  walk_at "tr"
  refine iteF (W.nil ?_)
  refine W.cons ?_
  refine W1.iff ?_
  refine Tw.t ?_
  refine Tw.or ?_
  refine T.cmp ?_
  refine E.fld ?_
  refine E.var 0 rfl ?_
  refine ⟨_, _, _, _, rfl, tR.cls, tR.nb, rfl, ?_⟩
  refine E.int ?_
  walk_at "o"
  refine ⟨_, rfl, ?_⟩
  refine ifF (by omega) ?_
  refine Tw.or1 ?_
  refine T.cmp ?_
  refine E.bin ?_
  refine E.fld ?_
  refine E.var 0 rfl ?_
  refine ⟨_, _, _, _, rfl, tR.cls, tR.nt, rfl, ?_⟩
  refine E.ix ?_
  refine E.var 1 rfl ?_
  refine E.int ?_
  walk_at "ix"
  walk_at "o"
  refine E.bin ?_
  refine E.ix ?_
  refine E.var 1 rfl ?_
  refine E.int ?_
  walk_at "ix"
  refine E.fld ?_
  refine E.var 0 rfl ?_
  refine ⟨_, _, _, _, rfl, tR.cls, tR.nb, rfl, ?_⟩
  walk_at "o"
  walk_at "o"
  refine ⟨_, rfl, ?_⟩
  refine ifn (fun h => absurd hn.2.1 h) (fun h => W.nil ?_)
  refine W.cons ?_
  refine W1.ret ?_
  refine E.cmp ?_
  refine E.dcall GCom (hr.mono (by decide)) ?_
  refine A.cons ?_
  refine E.fld ?_
  refine E.var 0 rfl ?_
  refine ⟨_, _, _, _, rfl, tR.cls, tR.nt, rfl, ?_⟩
  refine A.cons ?_
  refine E.fld ?_
  refine E.var 0 rfl ?_
  refine ⟨_, _, _, _, rfl, tR.cls, tR.nb, rfl, ?_⟩
  refine A.nil ?_
  refine ⟨[.int _, .int _], rfl, ⟨_, _, rfl, bD⟩, ?_⟩
  rintro r rfl
  refine E.int ?_
  walk_at "o"
  exact ⟨_, rfl, by show D.bl (decide (((Nat.gcd n.natAbs d.natAbs : Nat) : Int) = 1)) = _; rw [hn.2.2]; rfl⟩
abbrev sSide : Stmt := top 27
theorem scSide : FnScope ["above", "below"] ["above", "below"] (defScope sSide) := ⟨rfl, rfl, rfl, by decide +kernel, rfl, by decide +kernel, by decide +kernel⟩
def preSide : List D → Prop := fun ds => ∃ a b : Int, ds = [.int a, .int b]
def postSide : List D → D → Prop := fun ds r => r = .int (sde (nu (a0 ds)) (nu (a1 ds)))
theorem ok_side (F : Df K mg "_law_side" sSide ["above", "below"] f fd) : FnOk P w K mg base CX0 1 f fd ["above", "below"] (spF K preSide postSide) := by
  refine ok_F F.fn scSide (fun ds ⟨_, _, e⟩ => by rw [e]; rfl) fun cdv Ar outer sh Hp0 xE Fr ds hr hm ⟨a, b, e⟩ => ?_
  have nd := scSide.nd
  subst e
  show W _ _ _ _ _ [some (.d (.int a)), some (.d (.int b))]
  have fin : ∀ z : Int, z = sde a b → ∃ x, R.d (D.int z) = R.d x ∧ postSide [.int a, .int b] x := fun z e => ⟨_, rfl, by rw [e]; rfl⟩
  refine W.cons ?_
  refine W1.iff ?_
  refine T.cmp ?_
  refine E.var 0 rfl ?_
  refine E.int ?_
  walk_at "o"
  refine ⟨_, rfl, ?_⟩
  refine ifd (fun h => ?_) (fun h => ?_)
  · skip -- 253.0 of 0: return 0
    refine W.cons ?_
    refine W1.ret ?_
    refine E.int ?_
    exact fin _ (by unfold sde; rw [if_pos h])
  refine W.nil ?_
  refine W.cons ?_
  refine W1.iff ?_
  refine T.cmp ?_
  refine E.cmp ?_
  refine E.var 0 rfl ?_
  refine E.int ?_
  walk_at "o"
  refine E.cmp ?_
  refine E.var 1 rfl ?_
  refine E.int ?_
  walk_at "o"
  walk_at "o"
  refine ⟨_, rfl, ?_⟩
  have two : ∀ {k : Bool} {A B : Prop}, (k = true → A) → (¬ k = true → B) → if k = true then A else B := fun {k A B} h1 h2 => by
    by_cases hk : k = true
    · rw [if_pos hk]; exact h1 hk
    · rw [if_neg hk]; exact h2 hk
  refine two (fun h2 => ?_) (fun h2 => W.nil ?_)
  · skip -- 255.0 of 0: return 1
    refine W.cons ?_
    refine W1.ret ?_
    refine E.int ?_
    exact fin _ (by unfold sde; rw [if_neg h, if_pos h2])
  · skip -- 256.0 of 0: return -1
    refine W.cons ?_
    refine W1.ret ?_
    refine E.un ?_
    refine E.int ?_
    walk_at "u"
    exact fin _ (by unfold sde; rw [if_neg h, if_neg h2])
end

def Good (C : Addr) (x : D) : Prop := ∃ p q t b : Int, x = .tup [rat C p q, .tup [.int t, .int b]] ∧ Nrm t b p q ∧ b ≠ 0 ∧ Bd 4000 t ∧ Bd 4000 b
def RowsM (C : Addr) (ρ0 : Ro) (k : Nat) : List Cell → Ro → Prop := fun o r => r = ρ0 ∧ ∃ rs : List D, o = [.lst (rs.map R.d)] ∧ rs.length ≤ k ∧ ∀ x ∈ rs, Good C x
theorem rows_snoc {C : Addr} {ρ0 : Ro} {k : Nat} {rs : List D} {x : D} (hl : rs.length ≤ k) (hg : ∀ y ∈ rs, Good C y) (hx : Good C x) : RowsM C ρ0 (k + 1) [.lst (rs.map R.d ++ [.d x])] ρ0 :=
  ⟨rfl, rs ++ [x], by simp, by simp; omega, fun y hy => by
    rcases List.mem_append.mp hy with z | z
    · exact hg y z
    · rw [List.mem_singleton.mp z]; exact hx⟩
theorem good_of {C : Addr} {k1 k2 : Nat} {p q t b : Int} (h : Nrm t b p q) (hb : b ≠ 0) (h1 : Bd k1 t) (h2 : Bd k2 b) (l1 : k1 ≤ 4000 := by decide) (l2 : k2 ≤ 4000 := by decide) : Good C (.tup [rat C p q, .tup [.int t, .int b]]) := ⟨p, q, t, b, rfl, h, hb, h1.mono l1, h2.mono l2⟩
section
variable {a b c e n d m k i p q r s x y : Int}
theorem l_add (h1 : Nrm a b n d) (h2 : Nrm c e m k) (h : Nrm (n * k + m * d) (d * k) p q) : Nrm (a * e + c * b) (b * e) p q := h.conv (Int.mul_ne_zero (nrm_pos_ne h1) (nrm_pos_ne h2)) (by
  have e1 := h1.2.1
  have e2 := h2.2.1
  grind)
theorem l_sub (h1 : Nrm a b n d) (h2 : Nrm c e m k) (h : Nrm (n * k - m * d) (d * k) p q) : Nrm (a * e - c * b) (b * e) p q := h.conv (Int.mul_ne_zero (nrm_pos_ne h1) (nrm_pos_ne h2)) (by
  have e1 := h1.2.1
  have e2 := h2.2.1
  grind)
theorem l_bus (h1 : Nrm a b n d) (h2 : Nrm c e m k) (h : Nrm (m * d - n * k) (k * d) p q) : Nrm (c * b - a * e) (b * e) p q := h.conv (Int.mul_ne_zero (nrm_pos_ne h2) (nrm_pos_ne h1)) (by
  have e1 := h1.2.1
  have e2 := h2.2.1
  grind)
theorem l_mul (h1 : Nrm a b n d) (h2 : Nrm c e m k) (h : Nrm (n * m) (d * k) p q) : Nrm (a * c) (b * e) p q := h.conv (Int.mul_ne_zero (nrm_pos_ne h1) (nrm_pos_ne h2)) (by
  have e1 := h1.2.1
  have e2 := h2.2.1
  grind)
theorem l_addI (h1 : Nrm a b n d) (h : Nrm (n * 1 + i * d) (d * 1) p q) : Nrm (a + i * b) b p q := h.conv (Int.mul_ne_zero (nrm_pos_ne h1) (by decide)) (by
  have e1 := h1.2.1
  grind)
theorem l_subI (h1 : Nrm a b n d) (h : Nrm (n * 1 - i * d) (d * 1) p q) : Nrm (a - i * b) b p q := h.conv (Int.mul_ne_zero (nrm_pos_ne h1) (by decide)) (by
  have e1 := h1.2.1
  grind)
theorem l_Isub (h1 : Nrm a b n d) (h : Nrm (i * d - n) d p q) : Nrm (i * b - a) b p q := h.conv (nrm_pos_ne h1) (by
  have e1 := h1.2.1
  grind)
theorem l_mulI (h1 : Nrm a b n d) (h : Nrm (n * i) (d * 1) p q) : Nrm (a * i) b p q := h.conv (Int.mul_ne_zero (nrm_pos_ne h1) (by decide)) (by
  have e1 := h1.2.1
  grind)
theorem l_neg (h1 : Nrm a b n d) (h : Nrm (-n) d p q) : Nrm (-a) b p q := h.conv (nrm_pos_ne h1) (by
  have e1 := h1.2.1
  grind)
theorem l_abs (h1 : Nrm a b n d) (h : Nrm (n.natAbs : Int) d p q) : Nrm (a.natAbs : Int) (b.natAbs : Int) p q := h.conv (nrm_pos_ne h1) (by
  have e1 := congrArg Int.natAbs h1.2.1
  have hd := h1.1
  rw [Int.natAbs_mul, Int.natAbs_mul] at e1
  have : (d.natAbs : Int) = d := by omega
  rw [← this, ← Int.natCast_mul, ← Int.natCast_mul, e1])
theorem l_back (h1 : Nrm a b n d) (h2 : Nrm c e m k) (he : e ≠ 0) (h3 : Nrm (a * e + c * b) (b * e) p q) (h : Nrm (p * k - m * q) (q * k) r s) : Nrm a b r s := h.conv (Int.mul_ne_zero (nrm_pos_ne h3) (nrm_pos_ne h2)) (by
  have e2 := h2.2.1
  have e3 := h3.2.1
  refine Int.eq_of_mul_eq_mul_right he ?_
  grind)
theorem l_sq (h1 : Nrm (a * e + c * b) (b * e) p q) (h2 : Nrm (a * e - c * b) (b * e) r s) (h : Nrm (p * r) (q * s) x y) : Nrm (a * e * (a * e) - c * b * (c * b)) (b * e * (b * e)) x y := h.conv (Int.mul_ne_zero (nrm_pos_ne h1) (nrm_pos_ne h2)) (by
  have e1 := h1.2.1
  have e2 := h2.2.1
  grind)
theorem l_over (h1 : Nrm a b n d) (h2 : Nrm c e m k) (hm : m ≠ 0) (h : Nrm (n * k) (d * m) p q) : Nrm (a * e) (c * b) p q := h.conv (Int.mul_ne_zero (nrm_pos_ne h1) hm) (by
  have e1 := h1.2.1
  have e2 := h2.2.1
  grind)
theorem l_mo (h2 : Nrm c e m k) (he : e ≠ 0) (hm : m ≠ 0) (h3 : Nrm (a * c) (b * e) p q) (h : Nrm (p * k) (q * m) r s) : Nrm a b r s := h.conv (Int.mul_ne_zero (nrm_pos_ne h3) hm) (by
  have e2 := h2.2.1
  have e3 := h3.2.1
  refine Int.eq_of_mul_eq_mul_right he ?_
  grind)
theorem l_overI (h1 : Nrm a b n d) (hi : i ≠ 0) (h : Nrm (n * 1) (d * i) p q) : Nrm a (i * b) p q := h.conv (Int.mul_ne_zero (nrm_pos_ne h1) hi) (by
  have e1 := h1.2.1
  grind)
end

structure RatM (P : Program) (w : World) (K : PySem.W.Frag) (mg : Str → Option Value) (base : Heap) (C : Addr) : Prop where
  B : Bl mg
  tR : RatT K mg C
  MI : IOk P w K mg base CX0 C 1 [] (spI K C ["top", "bottom"] preI postI)
  MI1 : IOk P w K mg base CX0 C 1 [.int 1] (spI K C ["top", "bottom"] preI postI)
  MAdd : MOk P w K mg base CX0 C "__add__" 3 (spF K (pre2 C) (postAdd C))
  MSub : MOk P w K mg base CX0 C "__sub__" 3 (spF K (pre2 C) (postSub C))
  MMul : MOk P w K mg base CX0 C "__mul__" 3 (spF K (pre2 C) (postMul C))
  MRadd : MOk P w K mg base CX0 C "__radd__" 4 (spF K (preI2 C) (postAdd C))
  MRsub : MOk P w K mg base CX0 C "__rsub__" 4 (spF K (preI2 C) (postRsub C))
  MRmul : MOk P w K mg base CX0 C "__rmul__" 4 (spF K (preI2 C) (postMul C))
  MNeg : MOk P w K mg base CX0 C "__neg__" 3 (spF K (pre1 C) (postNeg C))
  MAbs : MOk P w K mg base CX0 C "__abs__" 3 (spF K (pre1 C) (postAbs C))
  MOver : MOk P w K mg base CX0 C "over" 3 (spF K (pre2O C) (postOver C))
  MSign : MOk P w K mg base CX0 C "sign" 1 (spF K (pre1 C) postSign)
  MEq : MOk P w K mg base CX0 C "__eq__" 1 (spF K (pre2 C) postEq)
  MBool : MOk P w K mg base CX0 C "__bool__" 1 (spF K (pre1 C) postBool)
section
variable {P : Program} {w : World} {K : PySem.W.Frag} {mg : Str → Option Value} {base : Heap} {C : Addr} {f : Addr} {fd : FuncData}
abbrev KRight (P : Program) (w : World) (K : PySem.W.Frag) (mg : Str → Option Value) (base : Heap) (C : Addr) : Prop := DOk P w K mg base CX0 "_law_right" 2 (spF K (preRight C) isTrue1)
def preRes (C : Addr) : List D → Prop := fun ds => ∃ n d m k i a b c e : Int, ds = [rat C n d, rat C m k, .int i, .tup [.int a, .int b], .tup [.int c, .int e]] ∧ Nrm a b n d ∧ Nrm c e m k ∧ b ≠ 0 ∧ e ≠ 0 ∧ Bd 220 a ∧ Bd 220 b ∧ Bd 220 c ∧ Bd 220 e ∧ Bd 220 i
abbrev ro9 (C : Addr) (n d m k i a b c e : Int) (z : Option R) : Ro := [some (.d (rat C n d)), some (.d (rat C m k)), some (.d (.int i)), some (.d (.tup [.int a, .int b])), some (.d (.tup [.int c, .int e])), some (.d (.int (a * e))), some (.d (.int (c * b))), some (.d (.int (b * e))), some (.d (.int (i * b))), some (.c 0), z]
theorem good2 {x y : D} (hx : Good C x) (hy : Good C y) : ∀ z ∈ [x, y], Good C z := fun z hz => by
  rcases List.mem_cons.mp hz with e | hz
  · rw [e]; exact hx
  · rw [List.mem_singleton.mp hz]; exact hy
abbrev sResults : Stmt := top 26
theorem scResults : FnScope ["first", "second", "number", "one", "two", "left", "right", "ends", "moved", "rows", "row"] ["first", "second", "number", "one", "two"] (defScope sResults) := ⟨rfl, rfl, rfl, by decide +kernel, rfl, by decide +kernel, by decide +kernel⟩
theorem ok_results (F : Df K mg "_law_results" sResults ["first", "second", "number", "one", "two"] f fd) (RM : RatM P w K mg base C) (GRight : KRight P w K mg base C) : FnOk P w K mg base CX0 5 f fd ["first", "second", "number", "one", "two"] (spF K (preRes C) isTrue1) := by
  obtain ⟨B, tR, MI, MI1, MAdd, MSub, MMul, MRadd, MRsub, MRmul, MNeg, MAbs, MOver, MSign, MEq, MBool⟩ := RM
  refine ok_F F.fn scResults (fun ds h => by obtain ⟨_, _, _, _, _, _, _, _, _, e, _⟩ := h; rw [e]; rfl) fun cdv Ar outer sh Hp0 xE Fr ds hr hm ⟨n, d, m, k, i, a, b, c, e, eq, hn1, hn2, hb, he, bA, bB, bC, bE, bI⟩ => ?_
  have nd := scResults.nd
  subst eq
  have ok1 := okn hn1 hb bA bB
  have ok2 := okn hn2 he bC bE
  have bA4 := bA.mono (show 220 ≤ 4000 by decide)
  have bB4 := bB.mono (show 220 ≤ 4000 by decide)
  have bC4 := bC.mono (show 220 ≤ 4000 by decide)
  have bE4 := bE.mono (show 220 ≤ 4000 by decide)
  have bI4 := bI.mono (show 220 ≤ 4000 by decide)
  have bL := bA.mul bE
  have bR := bC.mul bB
  have bN := bB.mul bE
  have bM := bI.mul bB
  have hN : b * e ≠ 0 := Int.mul_ne_zero hb he
  have bL4 := bL.mono (show 440 ≤ 4000 by decide)
  have bR4 := bR.mono (show 440 ≤ 4000 by decide)
  have bN4 := bN.mono (show 440 ≤ 4000 by decide)
  show W _ _ _ _ _ [some (.d (rat C n d)), some (.d (rat C m k)), some (.d (.int i)), some (.d (.tup [.int a, .int b])), some (.d (.tup [.int c, .int e])), none, none, none, none, none, none]
  refine W.cons ?_
  refine W1.set 5 ?_ nd
  refine E.bin ?_
  refine E.ix ?_
  refine E.var 3 rfl ?_
  refine E.int ?_
  walk_at "ix"
  refine E.ix ?_
  refine E.var 4 rfl ?_
  refine E.int ?_
  walk_at "ix"
  walk_at "o"
  walk_at "n"
  refine W.cons ?_
  refine W1.set 6 ?_ nd
  refine E.bin ?_
  refine E.ix ?_
  refine E.var 4 rfl ?_
  refine E.int ?_
  walk_at "ix"
  refine E.ix ?_
  refine E.var 3 rfl ?_
  refine E.int ?_
  walk_at "ix"
  walk_at "o"
  walk_at "n"
  refine W.cons ?_
  refine W1.set 7 ?_ nd
  refine E.bin ?_
  refine E.ix ?_
  refine E.var 3 rfl ?_
  refine E.int ?_
  walk_at "ix"
  refine E.ix ?_
  refine E.var 4 rfl ?_
  refine E.int ?_
  walk_at "ix"
  walk_at "o"
  walk_at "n"
  refine W.cons ?_
  refine W1.set 8 ?_ nd
  refine E.bin ?_
  refine E.var 2 rfl ?_
  refine E.ix ?_
  refine E.var 3 rfl ?_
  refine E.int ?_
  walk_at "ix"
  walk_at "o"
  walk_at "n"
  refine W.cut (RowsM C (ro9 C n d m k i a b c e none) 2) ?_ ?_
  · skip -- 228.0 of 2: rows = [(first + second, (left + right, ends)), (first - second, (left - right, ends))]
    refine W1.set 9 ?_ nd
    refine E.lstC ?_
    refine A.cons ?_
    refine E.tup ?_
    refine A.cons ?_
    refine E.bin ?_
    refine E.var 0 rfl ?_
    refine E.var 1 rfl ?_
    refine O2.dB tR.sf dn_add MAdd (hr.mono (by decide)) (.inl ⟨_, _, _, _, rfl, ok1, ok2⟩) ?_
    rintro _ ⟨p1, q1, rfl, h⟩
    have g1 := l_add hn1 hn2 h
    clear h
    refine A.cons ?_
    refine E.tup ?_
    refine A.cons ?_
    refine E.bin ?_
    refine E.var 5 rfl ?_
    refine E.var 6 rfl ?_
    walk_at "o"
    refine A.cons ?_
    refine E.var 7 rfl ?_
    refine A.nil ?_
    walk_at "disp"
    refine A.nil ?_
    walk_at "disp"
    refine A.cons ?_
    refine E.tup ?_
    refine A.cons ?_
    refine E.bin ?_
    refine E.var 0 rfl ?_
    refine E.var 1 rfl ?_
    refine O2.dB tR.sf dn_sub MSub (hr.mono (by decide)) (.inl ⟨_, _, _, _, rfl, ok1, ok2⟩) ?_
    rintro _ ⟨p2, q2, rfl, h⟩
    have g2 := l_sub hn1 hn2 h
    clear h
    refine A.cons ?_
    refine E.tup ?_
    refine A.cons ?_
    refine E.bin ?_
    refine E.var 5 rfl ?_
    refine E.var 6 rfl ?_
    walk_at "o"
    refine A.cons ?_
    refine E.var 7 rfl ?_
    refine A.nil ?_
    walk_at "disp"
    refine A.nil ?_
    walk_at "disp"
    refine A.nil ?_
    walk_at "dispC"
    walk_at "n"
    exact ⟨rfl, [_, _], rfl, Nat.le_refl _, good2 (good_of g1 hN (bL.add bR) bN) (good_of g2 hN (bL.sub bR) bN)⟩
  rintro _ _ ⟨rfl, rs, rfl, hl, hg⟩
  refine W.cut (RowsM C (ro9 C n d m k i a b c e none) 3) ?_ ?_
  · skip -- 229.0 of 1: rows.append((second - first, (right - left, ends)))
    refine W1.expr ?_
    refine E.append ?_
    refine E.var 9 rfl ?_
    refine ⟨_, rfl, ?_, ?_⟩; rotate_left; exact ⟨_, rfl⟩
    refine E.tup ?_
    refine A.cons ?_
    refine E.bin ?_
    refine E.var 1 rfl ?_
    refine E.var 0 rfl ?_
    refine O2.dB tR.sf dn_sub MSub (hr.mono (by decide)) (.inl ⟨_, _, _, _, rfl, ok2, ok1⟩) ?_
    rintro _ ⟨p3, q3, rfl, h⟩
    have g3 := l_bus hn1 hn2 h
    clear h
    refine A.cons ?_
    refine E.tup ?_
    refine A.cons ?_
    refine E.bin ?_
    refine E.var 6 rfl ?_
    refine E.var 5 rfl ?_
    walk_at "o"
    refine A.cons ?_
    refine E.var 7 rfl ?_
    refine A.nil ?_
    walk_at "disp"
    refine A.nil ?_
    walk_at "disp"
    walk_at "app"
    exact rows_snoc hl hg (good_of g3 hN (bR.sub bL) bN)
  clear hl hg
  rintro _ _ ⟨rfl, rs, rfl, hl, hg⟩
  refine W.cut (RowsM C (ro9 C n d m k i a b c e none) 4) ?_ ?_
  · skip -- 230.0 of 1: rows.append((first * second, (one[0] * two[0], ends)))
    refine W1.expr ?_
    refine E.append ?_
    refine E.var 9 rfl ?_
    refine ⟨_, rfl, ?_, ?_⟩; rotate_left; exact ⟨_, rfl⟩
    refine E.tup ?_
    refine A.cons ?_
    refine E.bin ?_
    refine E.var 0 rfl ?_
    refine E.var 1 rfl ?_
    refine O2.dB tR.sf dn_mul MMul (hr.mono (by decide)) (.inl ⟨_, _, _, _, rfl, ok1, ok2⟩) ?_
    rintro _ ⟨p4, q4, rfl, h⟩
    have g4 := l_mul hn1 hn2 h
    clear h
    refine A.cons ?_
    refine E.tup ?_
    refine A.cons ?_
    refine E.bin ?_
    refine E.ix ?_
    refine E.var 3 rfl ?_
    refine E.int ?_
    walk_at "ix"
    refine E.ix ?_
    refine E.var 4 rfl ?_
    refine E.int ?_
    walk_at "ix"
    walk_at "o"
    refine A.cons ?_
    refine E.var 7 rfl ?_
    refine A.nil ?_
    walk_at "disp"
    refine A.nil ?_
    walk_at "disp"
    walk_at "app"
    exact rows_snoc hl hg (good_of g4 hN (bA.mul bC) bN)
  clear hl hg
  rintro _ _ ⟨rfl, rs, rfl, hl, hg⟩
  refine W.cut (RowsM C (ro9 C n d m k i a b c e none) 5) ?_ ?_
  · skip -- 231.0 of 1: rows.append((first + number, (one[0] + moved, one[1])))
    refine W1.expr ?_
    refine E.append ?_
    refine E.var 9 rfl ?_
    refine ⟨_, rfl, ?_, ?_⟩; rotate_left; exact ⟨_, rfl⟩
    refine E.tup ?_
    refine A.cons ?_
    refine E.bin ?_
    refine E.var 0 rfl ?_
    refine E.var 2 rfl ?_
    refine O2.dI tR.sf dn_add dr_add MAdd MRadd (hr.mono (by decide)) tR.iA tR.iRA tR.subI (.inr ⟨_, _, _, rfl, ok1, bI4⟩) ?_
    rintro _ ⟨p5, q5, rfl, h⟩
    have g5 := l_addI hn1 h
    clear h
    refine A.cons ?_
    refine E.tup ?_
    refine A.cons ?_
    refine E.bin ?_
    refine E.ix ?_
    refine E.var 3 rfl ?_
    refine E.int ?_
    walk_at "ix"
    refine E.var 8 rfl ?_
    walk_at "o"
    refine A.cons ?_
    refine E.ix ?_
    refine E.var 3 rfl ?_
    refine E.int ?_
    walk_at "ix"
    refine A.nil ?_
    walk_at "disp"
    refine A.nil ?_
    walk_at "disp"
    walk_at "app"
    exact rows_snoc hl hg (good_of g5 hb (bA.add bM) bB)
  clear hl hg
  rintro _ _ ⟨rfl, rs, rfl, hl, hg⟩
  refine W.cut (RowsM C (ro9 C n d m k i a b c e none) 6) ?_ ?_
  · skip -- 232.0 of 1: rows.append((number + first, (one[0] + moved, one[1])))
    refine W1.expr ?_
    refine E.append ?_
    refine E.var 9 rfl ?_
    refine ⟨_, rfl, ?_, ?_⟩; rotate_left; exact ⟨_, rfl⟩
    refine E.tup ?_
    refine A.cons ?_
    refine E.bin ?_
    refine E.var 2 rfl ?_
    refine E.var 0 rfl ?_
    refine O2.dR tR.sf dn_add dr_add MRadd MAdd (hr.mono (by decide)) PySem.F.fills_int_add PySem.F.slot_int_add PySem.F.entry_int_add (fun _ _ _ => PySem.F.args_int_add_2 _ _) (fun _ _ _ _ => Own.decl_add) tR.subC ⟨_, _, _, rfl, ok1, bI4⟩ ?_
    rintro _ ⟨p5, q5, rfl, h⟩
    have g5 := l_addI hn1 h
    clear h
    refine A.cons ?_
    refine E.tup ?_
    refine A.cons ?_
    refine E.bin ?_
    refine E.ix ?_
    refine E.var 3 rfl ?_
    refine E.int ?_
    walk_at "ix"
    refine E.var 8 rfl ?_
    walk_at "o"
    refine A.cons ?_
    refine E.ix ?_
    refine E.var 3 rfl ?_
    refine E.int ?_
    walk_at "ix"
    refine A.nil ?_
    walk_at "disp"
    refine A.nil ?_
    walk_at "disp"
    walk_at "app"
    exact rows_snoc hl hg (good_of g5 hb (bA.add bM) bB)
  clear hl hg
  rintro _ _ ⟨rfl, rs, rfl, hl, hg⟩
  refine W.cut (RowsM C (ro9 C n d m k i a b c e none) 7) ?_ ?_
  · skip -- 233.0 of 1: rows.append((first - number, (one[0] - moved, one[1])))
    refine W1.expr ?_
    refine E.append ?_
    refine E.var 9 rfl ?_
    refine ⟨_, rfl, ?_, ?_⟩; rotate_left; exact ⟨_, rfl⟩
    refine E.tup ?_
    refine A.cons ?_
    refine E.bin ?_
    refine E.var 0 rfl ?_
    refine E.var 2 rfl ?_
    refine O2.dI tR.sf dn_sub dr_sub MSub MRsub (hr.mono (by decide)) tR.iS tR.iRS tR.subI (.inr ⟨_, _, _, rfl, ok1, bI4⟩) ?_
    rintro _ ⟨p5, q5, rfl, h⟩
    have g5 := l_subI hn1 h
    clear h
    refine A.cons ?_
    refine E.tup ?_
    refine A.cons ?_
    refine E.bin ?_
    refine E.ix ?_
    refine E.var 3 rfl ?_
    refine E.int ?_
    walk_at "ix"
    refine E.var 8 rfl ?_
    walk_at "o"
    refine A.cons ?_
    refine E.ix ?_
    refine E.var 3 rfl ?_
    refine E.int ?_
    walk_at "ix"
    refine A.nil ?_
    walk_at "disp"
    refine A.nil ?_
    walk_at "disp"
    walk_at "app"
    exact rows_snoc hl hg (good_of g5 hb (bA.sub bM) bB)
  clear hl hg
  rintro _ _ ⟨rfl, rs, rfl, hl, hg⟩
  refine W.cut (RowsM C (ro9 C n d m k i a b c e none) 8) ?_ ?_
  · skip -- 234.0 of 1: rows.append((number - first, (moved - one[0], one[1])))
    refine W1.expr ?_
    refine E.append ?_
    refine E.var 9 rfl ?_
    refine ⟨_, rfl, ?_, ?_⟩; rotate_left; exact ⟨_, rfl⟩
    refine E.tup ?_
    refine A.cons ?_
    refine E.bin ?_
    refine E.var 2 rfl ?_
    refine E.var 0 rfl ?_
    refine O2.dR tR.sf dn_sub dr_sub MRsub MSub (hr.mono (by decide)) PySem.F.fills_int_sub PySem.F.slot_int_sub PySem.F.entry_int_sub (fun _ _ _ => PySem.F.args_int_sub_2 _ _) (fun _ _ _ _ => Own.decl_sub) tR.subC ⟨_, _, _, rfl, ok1, bI4⟩ ?_
    rintro _ ⟨p5, q5, rfl, h⟩
    have g5 := l_Isub hn1 h
    clear h
    refine A.cons ?_
    refine E.tup ?_
    refine A.cons ?_
    refine E.bin ?_
    refine E.var 8 rfl ?_
    refine E.ix ?_
    refine E.var 3 rfl ?_
    refine E.int ?_
    walk_at "ix"
    walk_at "o"
    refine A.cons ?_
    refine E.ix ?_
    refine E.var 3 rfl ?_
    refine E.int ?_
    walk_at "ix"
    refine A.nil ?_
    walk_at "disp"
    refine A.nil ?_
    walk_at "disp"
    walk_at "app"
    exact rows_snoc hl hg (good_of g5 hb (bM.sub bA) bB)
  clear hl hg
  rintro _ _ ⟨rfl, rs, rfl, hl, hg⟩
  refine W.cut (RowsM C (ro9 C n d m k i a b c e none) 9) ?_ ?_
  · skip -- 235.0 of 1: rows.append((first * number, (one[0] * number, one[1])))
    refine W1.expr ?_
    refine E.append ?_
    refine E.var 9 rfl ?_
    refine ⟨_, rfl, ?_, ?_⟩; rotate_left; exact ⟨_, rfl⟩
    refine E.tup ?_
    refine A.cons ?_
    refine E.bin ?_
    refine E.var 0 rfl ?_
    refine E.var 2 rfl ?_
    refine O2.dI tR.sf dn_mul dr_mul MMul MRmul (hr.mono (by decide)) tR.iM tR.iRM tR.subI (.inr ⟨_, _, _, rfl, ok1, bI4⟩) ?_
    rintro _ ⟨p5, q5, rfl, h⟩
    have g5 := l_mulI hn1 h
    clear h
    refine A.cons ?_
    refine E.tup ?_
    refine A.cons ?_
    refine E.bin ?_
    refine E.ix ?_
    refine E.var 3 rfl ?_
    refine E.int ?_
    walk_at "ix"
    refine E.var 2 rfl ?_
    walk_at "o"
    refine A.cons ?_
    refine E.ix ?_
    refine E.var 3 rfl ?_
    refine E.int ?_
    walk_at "ix"
    refine A.nil ?_
    walk_at "disp"
    refine A.nil ?_
    walk_at "disp"
    walk_at "app"
    exact rows_snoc hl hg (good_of g5 hb (bA.mul bI) bB)
  clear hl hg
  rintro _ _ ⟨rfl, rs, rfl, hl, hg⟩
  refine W.cut (RowsM C (ro9 C n d m k i a b c e none) 10) ?_ ?_
  · skip -- 236.0 of 1: rows.append((number * first, (one[0] * number, one[1])))
    refine W1.expr ?_
    refine E.append ?_
    refine E.var 9 rfl ?_
    refine ⟨_, rfl, ?_, ?_⟩; rotate_left; exact ⟨_, rfl⟩
    refine E.tup ?_
    refine A.cons ?_
    refine E.bin ?_
    refine E.var 2 rfl ?_
    refine E.var 0 rfl ?_
    refine O2.dR tR.sf dn_mul dr_mul MRmul MMul (hr.mono (by decide)) PySem.F.fills_int_mul PySem.F.slot_int_mul PySem.F.entry_int_mul (fun _ _ _ => PySem.F.args_int_mul_2 _ _) (fun _ _ _ _ => Own.decl_mul) tR.subC ⟨_, _, _, rfl, ok1, bI4⟩ ?_
    rintro _ ⟨p5, q5, rfl, h⟩
    have g5 := l_mulI hn1 h
    clear h
    refine A.cons ?_
    refine E.tup ?_
    refine A.cons ?_
    refine E.bin ?_
    refine E.ix ?_
    refine E.var 3 rfl ?_
    refine E.int ?_
    walk_at "ix"
    refine E.var 2 rfl ?_
    walk_at "o"
    refine A.cons ?_
    refine E.ix ?_
    refine E.var 3 rfl ?_
    refine E.int ?_
    walk_at "ix"
    refine A.nil ?_
    walk_at "disp"
    refine A.nil ?_
    walk_at "disp"
    walk_at "app"
    exact rows_snoc hl hg (good_of g5 hb (bA.mul bI) bB)
  clear hl hg
  rintro _ _ ⟨rfl, rs, rfl, hl, hg⟩
  refine W.cut (RowsM C (ro9 C n d m k i a b c e none) 11) ?_ ?_
  · skip -- 237.0 of 1: rows.append((-first, (-one[0], one[1])))
    refine W1.expr ?_
    refine E.append ?_
    refine E.var 9 rfl ?_
    refine ⟨_, rfl, ?_, ?_⟩; rotate_left; exact ⟨_, rfl⟩
    refine E.tup ?_
    refine A.cons ?_
    refine E.un ?_
    refine E.var 0 rfl ?_
    refine O1.dN MNeg (hr.mono (by decide)) ⟨_, _, rfl, ok1⟩ ?_
    rintro _ ⟨p5, q5, rfl, h⟩
    have g5 := l_neg hn1 h
    clear h
    refine A.cons ?_
    refine E.tup ?_
    refine A.cons ?_
    refine E.un ?_
    refine E.ix ?_
    refine E.var 3 rfl ?_
    refine E.int ?_
    walk_at "ix"
    walk_at "u"
    refine A.cons ?_
    refine E.ix ?_
    refine E.var 3 rfl ?_
    refine E.int ?_
    walk_at "ix"
    refine A.nil ?_
    walk_at "disp"
    refine A.nil ?_
    walk_at "disp"
    walk_at "app"
    exact rows_snoc hl hg (good_of g5 hb bA.neg bB)
  clear hl hg
  rintro _ _ ⟨rfl, rs, rfl, hl, hg⟩
  refine W.cut (RowsM C (ro9 C n d m k i a b c e none) 12) ?_ ?_
  · skip -- 238.0 of 1: rows.append((abs(first), (abs(one[0]), abs(one[1]))))
    refine W1.expr ?_
    refine E.append ?_
    refine E.var 9 rfl ?_
    refine ⟨_, rfl, ?_, ?_⟩; rotate_left; exact ⟨_, rfl⟩
    refine E.tup ?_
    refine A.cons ?_
    refine E.callB B.abs bt_abs ?_
    refine A.cons ?_
    refine E.var 0 rfl ?_
    refine A.nil ?_
    refine Cl.dAbs MAbs (hr.mono (by decide)) ⟨_, _, rfl, ok1⟩ ?_
    rintro _ ⟨p5, q5, rfl, h⟩
    have g5 := l_abs hn1 h
    clear h
    refine A.cons ?_
    refine E.tup ?_
    refine A.cons ?_
    refine E.callB B.abs bt_abs ?_
    refine A.cons ?_
    refine E.ix ?_
    refine E.var 3 rfl ?_
    refine E.int ?_
    walk_at "ix"
    refine A.nil ?_
    walk_at "cl"
    refine A.cons ?_
    refine E.callB B.abs bt_abs ?_
    refine A.cons ?_
    refine E.ix ?_
    refine E.var 3 rfl ?_
    refine E.int ?_
    walk_at "ix"
    refine A.nil ?_
    walk_at "cl"
    refine A.nil ?_
    walk_at "disp"
    refine A.nil ?_
    walk_at "disp"
    walk_at "app"
    exact rows_snoc hl hg (good_of g5 (by omega) bA.abs bB.abs)
  clear hl hg
  rintro _ _ ⟨rfl, rs, rfl, hl, hg⟩
  refine W.cut (RowsM C (ro9 C n d m k i a b c e none) 13) ?_ ?_
  · skip -- 239.0 of 1: rows.append((Ratio(number), (number, 1)))
    refine W1.expr ?_
    refine E.append ?_
    refine E.var 9 rfl ?_
    refine ⟨_, rfl, ?_, ?_⟩; rotate_left; exact ⟨_, rfl⟩
    refine E.tup ?_
    refine A.cons ?_
    refine E.dmake MI1 tR.mgR (hr.mono (by decide)) ?_
    refine A.cons ?_
    refine E.var 2 rfl ?_
    refine A.nil ?_
    refine ⟨[.int _], rfl, ⟨_, _, rfl, by decide, bI4.mono (by decide), Bd.lit⟩, ?_⟩
    rintro fs ⟨p5, q5, rfl, h⟩
    refine A.cons ?_
    refine E.tup ?_
    refine A.cons ?_
    refine E.var 2 rfl ?_
    refine A.cons ?_
    refine E.int ?_
    refine A.nil ?_
    walk_at "disp"
    refine A.nil ?_
    walk_at "disp"
    walk_at "app"
    exact rows_snoc hl hg (good_of (k2 := 1) h (by decide) bI Bd.lit)
  clear hl hg
  rintro _ _ ⟨rfl, rs, rfl, hl, hg⟩
  refine W.cut (RowsM C (ro9 C n d m k i a b c e none) 14) ?_ ?_
  · skip -- 240.0 of 2: rows.append((first + second - second, one))
    refine W1.expr ?_
    refine E.append ?_
    refine E.var 9 rfl ?_
    refine ⟨_, rfl, ?_, ?_⟩; rotate_left; exact ⟨_, rfl⟩
    refine E.tup ?_
    refine A.cons ?_
    refine E.bin ?_
    refine E.bin ?_
    refine E.var 0 rfl ?_
    refine E.var 1 rfl ?_
    refine O2.dB tR.sf dn_add MAdd (hr.mono (by decide)) (.inl ⟨_, _, _, _, rfl, ok1, ok2⟩) ?_
    rintro _ ⟨p, q, rfl, h⟩
    have g1 := l_add hn1 hn2 h
    clear h
    refine E.var 1 rfl ?_
    refine O2.dB tR.sf dn_sub MSub (hr.mono (by decide)) (.inl ⟨_, _, _, _, rfl, (okn g1 hN (bL.add bR) bN), ok2⟩) ?_
    rintro _ ⟨p5, q5, rfl, h⟩
    have g5 := l_back hn1 hn2 he g1 h
    clear h
    refine A.cons ?_
    refine E.var 3 rfl ?_
    refine A.nil ?_
    walk_at "disp"
    walk_at "app"
    exact rows_snoc hl hg (good_of g5 hb bA bB)
  clear hl hg
  rintro _ _ ⟨rfl, rs, rfl, hl, hg⟩
  refine W.cut (RowsM C (ro9 C n d m k i a b c e none) 15) ?_ ?_
  · skip -- 241.0 of 3: rows.append(((first + second) * (first - second), (left * left - right * right, ends * ends)))
    refine W1.expr ?_
    refine E.append ?_
    refine E.var 9 rfl ?_
    refine ⟨_, rfl, ?_, ?_⟩; rotate_left; exact ⟨_, rfl⟩
    refine E.tup ?_
    refine A.cons ?_
    refine E.bin ?_
    refine E.bin ?_
    refine E.var 0 rfl ?_
    refine E.var 1 rfl ?_
    refine O2.dB tR.sf dn_add MAdd (hr.mono (by decide)) (.inl ⟨_, _, _, _, rfl, ok1, ok2⟩) ?_
    rintro _ ⟨p, q, rfl, h⟩
    have g1 := l_add hn1 hn2 h
    clear h
    refine E.bin ?_
    refine E.var 0 rfl ?_
    refine E.var 1 rfl ?_
    refine O2.dB tR.sf dn_sub MSub (hr.mono (by decide)) (.inl ⟨_, _, _, _, rfl, ok1, ok2⟩) ?_
    rintro _ ⟨r, s, rfl, h⟩
    have g2 := l_sub hn1 hn2 h
    clear h
    skip
    refine O2.dB tR.sf dn_mul MMul (hr.mono (by decide)) (.inl ⟨_, _, _, _, rfl, (okn g1 hN (bL.add bR) bN), (okn g2 hN (bL.sub bR) bN)⟩) ?_
    rintro _ ⟨p5, q5, rfl, h⟩
    have g5 := l_sq g1 g2 h
    clear h
    refine A.cons ?_
    refine E.tup ?_
    refine A.cons ?_
    refine E.bin ?_
    refine E.bin ?_
    refine E.var 5 rfl ?_
    refine E.var 5 rfl ?_
    walk_at "o"
    refine E.bin ?_
    refine E.var 6 rfl ?_
    refine E.var 6 rfl ?_
    walk_at "o"
    walk_at "o"
    refine A.cons ?_
    refine E.bin ?_
    refine E.var 7 rfl ?_
    refine E.var 7 rfl ?_
    walk_at "o"
    refine A.nil ?_
    walk_at "disp"
    refine A.nil ?_
    walk_at "disp"
    walk_at "app"
    exact rows_snoc hl hg (good_of g5 (Int.mul_ne_zero hN hN) ((bL.mul bL).sub (bR.mul bR)) (bN.mul bN))
  clear hl hg
  rintro _ _ ⟨rfl, rs, rfl, hl, hg⟩
  refine W.cut (RowsM C (ro9 C n d m k i a b c e none) 17) ?_ ?_
  · skip -- 242.0 of 0: if two[0] != 0:
    refine W1.iff ?_
    refine T.cmp ?_
    refine E.ix ?_
    refine E.var 4 rfl ?_
    refine E.int ?_
    walk_at "ix"
    refine E.int ?_
    walk_at "o"
    refine ⟨_, rfl, ?_⟩
    refine ifn (fun hc => ?_) (fun hc => W.nil ⟨rfl, rs, rfl, by omega, hg⟩)
    have hm0 : m ≠ 0 := fun z => hc ((nrm_zero hn2 he).mp z)
    have hR : c * b ≠ 0 := Int.mul_ne_zero hc hb
    refine W.cut (RowsM C (ro9 C n d m k i a b c e none) 16) ?_ ?_
    · skip -- 243.0 of 1: rows.append((first.over(second), (left, right)))
      refine W1.expr ?_
      refine E.append ?_
      refine E.var 9 rfl ?_
      refine ⟨_, rfl, ?_, ?_⟩; rotate_left; exact ⟨_, rfl⟩
      refine E.tup ?_
      refine A.cons ?_
      refine E.dmeth tR.cls MOver (hr.mono (by decide)) ?_
      refine E.var 0 rfl ?_
      refine ⟨_, _, rfl, rfl, ?_⟩
      refine A.cons ?_
      refine E.var 1 rfl ?_
      refine A.nil ?_
      refine ⟨[_], rfl, ⟨.inl ⟨_, _, _, _, rfl, ok1, ok2⟩, hm0⟩, ?_⟩
      rintro _ ⟨p5, q5, rfl, h⟩
      have g5 := l_over hn1 hn2 hm0 h
      refine A.cons ?_
      refine E.tup ?_
      refine A.cons ?_
      refine E.var 5 rfl ?_
      refine A.cons ?_
      refine E.var 6 rfl ?_
      refine A.nil ?_
      walk_at "disp"
      refine A.nil ?_
      walk_at "disp"
      walk_at "app"
      exact rows_snoc hl hg (good_of g5 hR bL bR)
    clear hl hg
    rintro _ _ ⟨rfl, rs, rfl, hl, hg⟩
    refine W.cut (RowsM C (ro9 C n d m k i a b c e none) 17) ?_ ?_
    · skip -- 244.0 of 2: rows.append(((first * second).over(second), one))
      refine W1.expr ?_
      refine E.append ?_
      refine E.var 9 rfl ?_
      refine ⟨_, rfl, ?_, ?_⟩; rotate_left; exact ⟨_, rfl⟩
      refine E.tup ?_
      refine A.cons ?_
      refine E.dmeth tR.cls MOver (hr.mono (by decide)) ?_
      refine E.bin ?_
      refine E.var 0 rfl ?_
      refine E.var 1 rfl ?_
      refine O2.dB tR.sf dn_mul MMul (hr.mono (by decide)) (.inl ⟨_, _, _, _, rfl, ok1, ok2⟩) ?_
      rintro _ ⟨p, q, rfl, h⟩
      have g4 := l_mul hn1 hn2 h
      clear h
      refine ⟨_, _, rfl, rfl, ?_⟩
      refine A.cons ?_
      refine E.var 1 rfl ?_
      refine A.nil ?_
      refine ⟨[_], rfl, ⟨.inl ⟨_, _, _, _, rfl, okn g4 hN (bA.mul bC) bN, ok2⟩, hm0⟩, ?_⟩
      rintro _ ⟨p5, q5, rfl, h⟩
      have g5 := l_mo hn2 he hm0 g4 h
      refine A.cons ?_
      refine E.var 3 rfl ?_
      refine A.nil ?_
      walk_at "disp"
      walk_at "app"
      exact rows_snoc hl hg (good_of g5 hb bA bB)
    exact fun _ _ z => W.nil z
  clear hl hg
  rintro _ _ ⟨rfl, rs, rfl, hl, hg⟩
  refine W.cut (RowsM C (ro9 C n d m k i a b c e none) 18) ?_ ?_
  · skip -- 245.0 of 0: if number != 0:
    refine W1.iff ?_
    refine T.cmp ?_
    refine E.var 2 rfl ?_
    refine E.int ?_
    walk_at "o"
    refine ⟨_, rfl, ?_⟩
    refine ifn (fun hi => ?_) (fun hi => W.nil ⟨rfl, rs, rfl, by omega, hg⟩)
    refine W.cut (RowsM C (ro9 C n d m k i a b c e none) 18) ?_ ?_
    · skip
      refine W1.expr ?_
      refine E.append ?_
      refine E.var 9 rfl ?_
      refine ⟨_, rfl, ?_, ?_⟩; rotate_left; exact ⟨_, rfl⟩
      refine E.tup ?_
      refine A.cons ?_
      refine E.dmeth tR.cls MOver (hr.mono (by decide)) ?_
      refine E.var 0 rfl ?_
      refine ⟨_, _, rfl, rfl, ?_⟩
      refine A.cons ?_
      refine E.var 2 rfl ?_
      refine A.nil ?_
      refine ⟨[.int _], rfl, ⟨.inr ⟨_, _, _, rfl, ok1, bI4⟩, hi⟩, ?_⟩
      rintro _ ⟨p5, q5, rfl, h⟩
      have g5 := l_overI hn1 hi h
      refine A.cons ?_
      refine E.tup ?_
      refine A.cons ?_
      refine E.ix ?_
      refine E.var 3 rfl ?_
      refine E.int ?_
      walk_at "ix"
      refine A.cons ?_
      refine E.var 8 rfl ?_
      refine A.nil ?_
      walk_at "disp"
      refine A.nil ?_
      walk_at "disp"
      walk_at "app"
      exact rows_snoc hl hg (good_of g5 (Int.mul_ne_zero hi hb) bA bM)
    exact fun _ _ z => W.nil z
  clear hl hg
  rintro _ _ ⟨rfl, rs, rfl, hl, hg⟩
  refine W.cut (fun o r => True) ?_ ?_
  · refine W1.forC (fun j o r => o = [.lst (rs.map R.d)] ∧ ∃ z, r = ro9 C n d m k i a b c e z) rfl PassesOwn.never ?_
    refine E.var 9 rfl ?_
    refine ⟨0, _, rfl, rfl, ⟨rfl, _, rfl⟩, fun _ o r h => by rw [h.1]; rfl, ?_, fun _ _ _ => trivial⟩
    rintro j x o r hx ⟨rfl, z, rfl⟩
    obtain ⟨y, hy, rfl⟩ : ∃ y, rs[j]? = some y ∧ x = .d y := by
      rw [List.getElem?_map] at hx
      cases q : rs[j]? with
      | none => rw [q] at hx; cases hx
      | some y => rw [q] at hx; exact ⟨y, rfl, by cases hx; rfl⟩
    obtain ⟨p, q, t, u, rfl, h1, h2, h3, h4⟩ := hg y (List.mem_of_getElem? hy)
    refine Tg.name 10 ?_ nd
    refine W.cons ?_
    refine W1.iff ?_
    refine T.not ?_
    refine T.truth ?_
    refine E.dcall GRight (hr.mono (by decide)) ?_
    refine A.cons ?_
    refine E.ix ?_
    refine E.var 10 rfl ?_
    refine E.int ?_
    walk_at "ix"
    refine A.cons ?_
    refine E.ix ?_
    refine E.var 10 rfl ?_
    refine E.int ?_
    walk_at "ix"
    refine A.nil ?_
    refine ⟨[_, _], rfl, ⟨_, _, _, _, rfl, h1, h2, h3, h4⟩, ?_⟩
    rintro _ rfl
    walk_at "tr"
    exact iteF (W.nil (W.nil ⟨rfl, _, rfl⟩))
  rintro _ _ _
  refine W.cons ?_
  refine W1.ret ?_
  refine E.bl ?_
  exact ⟨_, rfl, rfl⟩
end

section
variable {P : Program} {w : World} {K : PySem.W.Frag} {mg : Str → Option Value} {base : Heap} {C : Addr} {f : Addr} {fd : FuncData}
def PairI (x : D) : Prop := ∃ i : Int, x = .tup [.int i, .int i]
def RowsI (ρ0 : Ro) (k : Nat) : List Cell → Ro → Prop := fun o r => r = ρ0 ∧ ∃ rs : List D, o = [.lst (rs.map R.d)] ∧ rs.length ≤ k ∧ ∀ x ∈ rs, PairI x
theorem rowsI_snoc {ρ0 : Ro} {k : Nat} {rs : List D} {x : D} (hl : rs.length ≤ k) (hg : ∀ y ∈ rs, PairI y) (hx : PairI x) : RowsI ρ0 (k + 1) [.lst (rs.map R.d ++ [.d x])] ρ0 :=
  ⟨rfl, rs ++ [x], by simp, by simp; omega, fun y hy => by
    rcases List.mem_append.mp hy with z | z
    · exact hg y z
    · rw [List.mem_singleton.mp z]; exact hx⟩
abbrev KSide (P : Program) (w : World) (K : PySem.W.Frag) (mg : Str → Option Value) (base : Heap) : Prop := DOk P w K mg base CX0 "_law_side" 1 (spF K preSide postSide)
def postCp : List D → D → Prop := fun ds r => ∃ p q, Nrm (nu (a0 ds) * de (a1 ds) - nu (a1 ds) * de (a0 ds)) (de (a0 ds) * de (a1 ds)) p q ∧ r = .int (sgn p)
abbrev KCompare (P : Program) (w : World) (K : PySem.W.Frag) (mg : Str → Option Value) (base : Heap) (C : Addr) : Prop := DOk P w K mg base CX0 "compare" 4 (spF K (preH C) postCp)
def pre4 (C : Addr) : List D → Prop := fun ds => ∃ n d m k a b c e : Int, ds = [rat C n d, rat C m k, .tup [.int a, .int b], .tup [.int c, .int e]] ∧ Nrm a b n d ∧ Nrm c e m k ∧ b ≠ 0 ∧ e ≠ 0 ∧ Bd 220 a ∧ Bd 220 b ∧ Bd 220 c ∧ Bd 220 e
theorem okh {k j : Nat} {t b p q : Int} (h : Nrm t b p q) (hb : b ≠ 0) (h1 : Bd k t) (h2 : Bd j b) (hk : k ≤ 1900 := by decide) (hj : j ≤ 1900 := by decide) : OkH p q := ⟨h.1, (h1.le (h.le hb).1).mono hk, (h2.le (h.le hb).2).mono hj⟩
theorem preh {n d m k : Int} (h1 : OkH n d) (h2 : OkH m k) : preH C [rat C n d, rat C m k] := ⟨_, _, _, _, rfl, h1.ok, h2.ok, h1, h2⟩
abbrev ro4 (C : Addr) (n d m k a b c e : Int) (z : Option R) : Ro := [some (.d (rat C n d)), some (.d (rat C m k)), some (.d (.tup [.int a, .int b])), some (.d (.tup [.int c, .int e])), some (.d (.int (sde (a * e - c * b) (b * e)))), some (.c 0), z]
abbrev sSigns : Stmt := top 28
theorem scSigns : FnScope ["first", "second", "one", "two", "apart", "rows", "row"] ["first", "second", "one", "two"] (defScope sSigns) := ⟨rfl, rfl, rfl, by decide +kernel, rfl, by decide +kernel, by decide +kernel⟩
theorem ok_signs (F : Df K mg "_law_signs" sSigns ["first", "second", "one", "two"] f fd) (RM : RatM P w K mg base C) (GSide : KSide P w K mg base) (GInt : KInt P w K mg base) (GCompare : KCompare P w K mg base C) : FnOk P w K mg base CX0 5 f fd ["first", "second", "one", "two"] (spF K (pre4 C) isTrue1) := by
  obtain ⟨B, tR, MI, MI1, MAdd, MSub, MMul, MRadd, MRsub, MRmul, MNeg, MAbs, MOver, MSign, MEq, MBool⟩ := RM
  refine ok_F F.fn scSigns (fun ds h => by obtain ⟨_, _, _, _, _, _, _, _, e, _⟩ := h; rw [e]; rfl) fun cdv Ar outer sh Hp0 xE Fr ds hr hm ⟨n, d, m, k, a, b, c, e, eq, hn1, hn2, hb, he, bA, bB, bC, bE⟩ => ?_
  have nd := scSigns.nd
  subst eq
  have ok1 := okn hn1 hb bA bB
  have ok2 := okn hn2 he bC bE
  have okh1 := okh hn1 hb bA bB
  have okh2 := okh hn2 he bC bE
  have bA4 := bA.mono (show 220 ≤ 4000 by decide)
  have bB4 := bB.mono (show 220 ≤ 4000 by decide)
  have bC4 := bC.mono (show 220 ≤ 4000 by decide)
  have bE4 := bE.mono (show 220 ≤ 4000 by decide)
  have hN : b * e ≠ 0 := Int.mul_ne_zero hb he
  show W _ _ _ _ _ [some (.d (rat C n d)), some (.d (rat C m k)), some (.d (.tup [.int a, .int b])), some (.d (.tup [.int c, .int e])), none, none, none]
  refine W.cons ?_
  refine W1.set 4 ?_ nd
  refine E.dcall GSide (hr.mono (by decide)) ?_
  refine A.cons ?_
  refine E.bin ?_
  refine E.bin ?_
  refine E.ix ?_
  refine E.var 2 rfl ?_
  refine E.int ?_
  walk_at "ix"
  refine E.ix ?_
  refine E.var 3 rfl ?_
  refine E.int ?_
  walk_at "ix"
  walk_at "o"
  refine E.bin ?_
  refine E.ix ?_
  refine E.var 3 rfl ?_
  refine E.int ?_
  walk_at "ix"
  refine E.ix ?_
  refine E.var 2 rfl ?_
  refine E.int ?_
  walk_at "ix"
  walk_at "o"
  walk_at "o"
  refine A.cons ?_
  refine E.bin ?_
  refine E.ix ?_
  refine E.var 2 rfl ?_
  refine E.int ?_
  walk_at "ix"
  refine E.ix ?_
  refine E.var 3 rfl ?_
  refine E.int ?_
  walk_at "ix"
  walk_at "o"
  refine A.nil ?_
  refine ⟨[.int _, .int _], rfl, ⟨_, _, rfl⟩, ?_⟩
  rintro _ rfl
  walk_at "n"
  refine W.cut (RowsI (ro4 C n d m k a b c e none) 2) ?_ ?_
  · skip -- 259.0 of 4: rows = [(first.sign(), _law_side(one[0], one[1])), (second.sign(), _law_side(two[0], two[1]))]
    refine W1.set 5 ?_ nd
    refine E.lstC ?_
    refine A.cons ?_
    refine E.tup ?_
    refine A.cons ?_
    refine E.dmeth0 tR.cls MSign (hr.mono (by decide)) ?_
    refine E.var 0 rfl ?_
    skip
    refine ⟨_, _, rfl, rfl, ⟨_, _, rfl, ok1⟩, ?_⟩
    rintro _ rfl
    refine A.cons ?_
    refine E.dcall GSide (hr.mono (by decide)) ?_
    refine A.cons ?_
    refine E.ix ?_
    refine E.var 2 rfl ?_
    refine E.int ?_
    walk_at "ix"
    refine A.cons ?_
    refine E.ix ?_
    refine E.var 2 rfl ?_
    refine E.int ?_
    walk_at "ix"
    refine A.nil ?_
    refine ⟨[.int _, .int _], rfl, ⟨_, _, rfl⟩, ?_⟩
    rintro _ rfl
    refine A.nil ?_
    walk_at "disp"
    refine A.cons ?_
    refine E.tup ?_
    refine A.cons ?_
    refine E.dmeth0 tR.cls MSign (hr.mono (by decide)) ?_
    refine E.var 1 rfl ?_
    skip
    refine ⟨_, _, rfl, rfl, ⟨_, _, rfl, ok2⟩, ?_⟩
    rintro _ rfl
    refine A.cons ?_
    refine E.dcall GSide (hr.mono (by decide)) ?_
    refine A.cons ?_
    refine E.ix ?_
    refine E.var 3 rfl ?_
    refine E.int ?_
    walk_at "ix"
    refine A.cons ?_
    refine E.ix ?_
    refine E.var 3 rfl ?_
    refine E.int ?_
    walk_at "ix"
    refine A.nil ?_
    refine ⟨[.int _, .int _], rfl, ⟨_, _, rfl⟩, ?_⟩
    rintro _ rfl
    refine A.nil ?_
    walk_at "disp"
    refine A.nil ?_
    walk_at "dispC"
    walk_at "n"
    refine ⟨rfl, [_, _], rfl, Nat.le_refl _, fun z hz => ?_⟩
    rcases List.mem_cons.mp hz with e0 | hz
    · rw [e0]; exact ⟨sgn n, by show D.tup [.int (sgn n), .int (sde a b)] = _; rw [sgn_sde hn1 hb]⟩
    · rw [List.mem_singleton.mp hz]; exact ⟨sgn m, by show D.tup [.int (sgn m), .int (sde c e)] = _; rw [sgn_sde hn2 he]⟩
  rintro _ _ ⟨rfl, rs, rfl, hl, hg⟩
  refine W.cut (RowsI (ro4 C n d m k a b c e none) 3) ?_ ?_
  · skip -- 260.0 of 1: rows.append((compare(first, second), apart))
    refine W1.expr ?_
    refine E.append ?_
    refine E.var 5 rfl ?_
    refine ⟨_, rfl, ?_, ?_⟩; rotate_left; exact ⟨_, rfl⟩
    refine E.tup ?_
    refine A.cons ?_
    refine E.dcall GCompare (hr.mono (by decide)) ?_
    refine A.cons ?_
    refine E.var 0 rfl ?_
    refine A.cons ?_
    refine E.var 1 rfl ?_
    refine A.nil ?_
    refine ⟨[_, _], rfl, preh okh1 okh2, ?_⟩
    rintro _ ⟨p, q, hp, rfl⟩
    have hp : Nrm (n * k - m * d) (d * k) p q := hp
    have g := sgn_sde (l_sub hn1 hn2 hp) hN
    refine A.cons ?_
    refine E.var 4 rfl ?_
    refine A.nil ?_
    walk_at "disp"
    walk_at "app"
    exact rowsI_snoc hl hg ⟨sgn p, by rw [g]⟩
  clear hl hg
  rintro _ _ ⟨rfl, rs, rfl, hl, hg⟩
  refine W.cut (RowsI (ro4 C n d m k a b c e none) 4) ?_ ?_
  · skip -- 261.0 of 1: rows.append((compare(second, first), -apart))
    refine W1.expr ?_
    refine E.append ?_
    refine E.var 5 rfl ?_
    refine ⟨_, rfl, ?_, ?_⟩; rotate_left; exact ⟨_, rfl⟩
    refine E.tup ?_
    refine A.cons ?_
    refine E.dcall GCompare (hr.mono (by decide)) ?_
    refine A.cons ?_
    refine E.var 1 rfl ?_
    refine A.cons ?_
    refine E.var 0 rfl ?_
    refine A.nil ?_
    refine ⟨[_, _], rfl, preh okh2 okh1, ?_⟩
    rintro _ ⟨p, q, hp, rfl⟩
    have hp : Nrm (m * d - n * k) (k * d) p q := hp
    have g := sgn_sde (l_bus hn1 hn2 hp) hN
    refine A.cons ?_
    refine E.un ?_
    refine E.var 4 rfl ?_
    walk_at "u"
    refine A.nil ?_
    walk_at "disp"
    walk_at "app"
    exact rowsI_snoc hl hg ⟨sgn p, by rw [g, ← sde_neg, Int.neg_sub]⟩
  clear hl hg
  rintro _ _ ⟨rfl, rs, rfl, hl, hg⟩
  refine W.cut (RowsI (ro4 C n d m k a b c e none) 5) ?_ ?_
  · skip -- 262.0 of 1: rows.append((compare(first, first), 0))
    refine W1.expr ?_
    refine E.append ?_
    refine E.var 5 rfl ?_
    refine ⟨_, rfl, ?_, ?_⟩; rotate_left; exact ⟨_, rfl⟩
    refine E.tup ?_
    refine A.cons ?_
    refine E.dcall GCompare (hr.mono (by decide)) ?_
    refine A.cons ?_
    refine E.var 0 rfl ?_
    refine A.cons ?_
    refine E.var 0 rfl ?_
    refine A.nil ?_
    refine ⟨[_, _], rfl, preh okh1 okh1, ?_⟩
    rintro _ ⟨p, q, hp, rfl⟩
    have hp : Nrm (n * d - n * d) (d * d) p q := hp
    have hd := hn1.1
    have g := (nrm_zero hp (Int.mul_ne_zero (by omega) (by omega))).mpr (by omega)
    refine A.cons ?_
    refine E.int ?_
    refine A.nil ?_
    walk_at "disp"
    walk_at "app"
    exact rowsI_snoc hl hg ⟨0, by rw [g]; rfl⟩
  clear hl hg
  rintro _ _ ⟨rfl, rs, rfl, hl, hg⟩
  refine W.cut (fun o r => True) ?_ ?_
  · refine W1.forC (fun j o r => o = [.lst (rs.map R.d)] ∧ ∃ z, r = ro4 C n d m k a b c e z) rfl PassesOwn.never ?_
    refine E.var 5 rfl ?_
    refine ⟨0, _, rfl, rfl, ⟨rfl, _, rfl⟩, fun _ o r h => by rw [h.1]; rfl, ?_, fun _ _ _ => trivial⟩
    rintro j x o r hx ⟨rfl, z, rfl⟩
    obtain ⟨y, hy, rfl⟩ : ∃ y, rs[j]? = some y ∧ x = .d y := by
      rw [List.getElem?_map] at hx
      cases q : rs[j]? with
      | none => rw [q] at hx; cases hx
      | some y => rw [q] at hx; exact ⟨y, rfl, by cases hx; rfl⟩
    obtain ⟨i, rfl⟩ := hg y (List.mem_of_getElem? hy)
    refine Tg.name 6 ?_ nd
    refine W.cons ?_
    refine W1.iff ?_
    refine Tw.t ?_
    refine Tw.or ?_
    refine T.not ?_
    refine T.truth ?_
    refine E.dcall GInt (hr.mono (by decide)) ?_
    refine A.cons ?_
    refine E.ix ?_
    refine E.var 6 rfl ?_
    refine E.int ?_
    walk_at "ix"
    refine A.nil ?_
    refine ⟨[.int _], rfl, ⟨_, rfl⟩, ?_⟩
    rintro _ rfl
    walk_at "tr"
    refine iteF ?_
    refine Tw.or1 ?_
    refine T.cmp ?_
    refine E.ix ?_
    refine E.var 6 rfl ?_
    refine E.int ?_
    walk_at "ix"
    refine E.ix ?_
    refine E.var 6 rfl ?_
    refine E.int ?_
    walk_at "ix"
    walk_at "o"
    refine ⟨_, rfl, ?_⟩
    exact ifn (fun h => absurd rfl h) (fun _ => W.nil (W.nil ⟨rfl, _, rfl⟩))
  rintro _ _ _
  refine W.cons ?_
  refine W1.ret ?_
  refine E.bl ?_
  exact ⟨_, rfl, rfl⟩
def pre5 (C : Addr) : List D → Prop := fun ds => ∃ n d m k i a b c e : Int, ds = [rat C n d, rat C m k, .int i, .tup [.int a, .int b], .tup [.int c, .int e]] ∧ Nrm a b n d ∧ Nrm c e m k ∧ b ≠ 0 ∧ e ≠ 0 ∧ Bd 220 a ∧ Bd 220 b ∧ Bd 220 c ∧ Bd 220 e ∧ Bd 220 i
theorem eq_same {a b c e n d m k : Int} (h1 : Nrm a b n d) (h2 : Nrm c e m k) (hb : b ≠ 0) (he : e ≠ 0) : (true && (decide (n = m) && decide (d = k))) = decide (a * e = c * b) := by
  have := nrm_eq h1 h2 hb he
  by_cases hx : a * e = c * b
  · obtain ⟨x, y⟩ := this.mpr hx
    rw [decide_eq_true hx, decide_eq_true x, decide_eq_true y]; rfl
  · rw [decide_eq_false hx]
    by_cases x : n = m
    · by_cases y : d = k
      · exact absurd (this.mp ⟨x, y⟩) hx
      · rw [decide_eq_true x, decide_eq_false y]; rfl
    · rw [decide_eq_false x]; rfl
theorem two2 {k : Bool} {A B : Prop} (h1 : k = true → A) (h2 : k = false → B) : if k = true then A else B := by
  cases k with
  | true => exact iteT (h1 rfl)
  | false => exact iteF (h2 rfl)
abbrev sCompared : Stmt := top 29
theorem scCompared : FnScope ["first", "second", "number", "one", "two", "same"] ["first", "second", "number", "one", "two"] (defScope sCompared) := ⟨rfl, rfl, rfl, by decide +kernel, rfl, by decide +kernel, by decide +kernel⟩
theorem ok_compared (F : Df K mg "_law_compared" sCompared ["first", "second", "number", "one", "two"] f fd) (RM : RatM P w K mg base C) : FnOk P w K mg base CX0 5 f fd ["first", "second", "number", "one", "two"] (spF K (pre5 C) isTrue1) := by
  obtain ⟨B, tR, MI, MI1, MAdd, MSub, MMul, MRadd, MRsub, MRmul, MNeg, MAbs, MOver, MSign, MEq, MBool⟩ := RM
  refine ok_F F.fn scCompared (fun ds h => by obtain ⟨_, _, _, _, _, _, _, _, _, e, _⟩ := h; rw [e]; rfl) fun cdv Ar outer sh Hp0 xE Fr ds hr hm ⟨n, d, m, k, i, a, b, c, e, eq, hn1, hn2, hb, he, bA, bB, bC, bE, bI⟩ => ?_
  have nd := scCompared.nd
  subst eq
  have ok1 := okn hn1 hb bA bB
  have ok2 := okn hn2 he bC bE
  have bA4 := bA.mono (show 220 ≤ 4000 by decide)
  have bB4 := bB.mono (show 220 ≤ 4000 by decide)
  have bC4 := bC.mono (show 220 ≤ 4000 by decide)
  have bE4 := bE.mono (show 220 ≤ 4000 by decide)
  have bI4 := bI.mono (show 220 ≤ 4000 by decide)
  have s1 := eq_same hn1 hn2 hb he
  have s2 := eq_same hn2 hn1 he hb
  have s3 : decide (c * b = a * e) = decide (a * e = c * b) := by
    by_cases hx : a * e = c * b
    · rw [hx]
    · rw [decide_eq_false hx, decide_eq_false fun z => hx z.symm]
  have neF : ∀ x : Bool, (!(x == x)) = false := fun x => by cases x <;> rfl
  show W _ _ _ _ _ [some (.d (rat C n d)), some (.d (rat C m k)), some (.d (.int i)), some (.d (.tup [.int a, .int b])), some (.d (.tup [.int c, .int e])), none]
  refine W.cons ?_
  refine W1.set 5 ?_ nd
  refine E.cmp ?_
  refine E.bin ?_
  refine E.ix ?_
  refine E.var 3 rfl ?_
  refine E.int ?_
  walk_at "ix"
  refine E.ix ?_
  refine E.var 4 rfl ?_
  refine E.int ?_
  walk_at "ix"
  walk_at "o"
  refine E.bin ?_
  refine E.ix ?_
  refine E.var 4 rfl ?_
  refine E.int ?_
  walk_at "ix"
  refine E.ix ?_
  refine E.var 3 rfl ?_
  refine E.int ?_
  walk_at "ix"
  walk_at "o"
  walk_at "o"
  walk_at "n"
  refine W.cons ?_
  refine W1.iff ?_
  refine Tw.t ?_
  refine Tw.or ?_
  refine T.cmp ?_
  refine E.cmp ?_
  refine E.var 0 rfl ?_
  refine E.var 1 rfl ?_
  refine O2.dEq MEq (hr.mono (by decide)) tR.nfR (.inl ⟨_, _, _, _, rfl, ok1, ok2⟩) ?_
  rintro _ rfl
  refine E.var 5 rfl ?_
  walk_at "o"
  refine ⟨_, rfl, ?_⟩
  show if (!((true && (decide (n = m) && decide (d = k))) == decide (a * e = c * b))) = true then _ else _
  rw [s1, neF]
  refine iteF ?_
  refine Tw.or1 ?_
  refine T.cmp ?_
  refine E.cmp ?_
  refine E.var 1 rfl ?_
  refine E.var 0 rfl ?_
  refine O2.dEq MEq (hr.mono (by decide)) tR.nfR (.inl ⟨_, _, _, _, rfl, ok2, ok1⟩) ?_
  rintro _ rfl
  refine E.var 5 rfl ?_
  walk_at "o"
  refine ⟨_, rfl, ?_⟩
  show if (!((true && (decide (m = n) && decide (k = d))) == decide (a * e = c * b))) = true then _ else _
  rw [s2, s3, neF]
  refine iteF (W.nil ?_)
  refine W.cons ?_
  refine W1.iff ?_
  refine Tw.t ?_
  refine Tw.or ?_
  refine T.cmp ?_
  refine E.var 0 rfl ?_
  refine E.var 2 rfl ?_
  refine O2.dEqI MEq (hr.mono (by decide)) tR.nfI (.inr ⟨_, _, _, rfl, ok1, bI4⟩) ?_
  rintro _ rfl
  refine ⟨_, rfl, ?_⟩
  refine iteF ?_
  refine Tw.or ?_
  refine T.cmp ?_
  refine E.var 2 rfl ?_
  refine E.var 0 rfl ?_
  refine O2.dEqR MEq (hr.mono (by decide)) tR.subC (.inr ⟨_, _, _, rfl, ok1, bI4⟩) ?_
  rintro _ rfl
  refine ⟨_, rfl, ?_⟩
  refine iteF ?_
  refine Tw.or1 ?_
  refine T.not ?_
  refine T.cmp ?_
  refine E.var 0 rfl ?_
  refine E.var 2 rfl ?_
  refine O2.dNeI MEq (hr.mono (by decide)) tR.nfI tR.hne tR.hobj (.inr ⟨_, _, _, rfl, ok1, bI4⟩) ?_
  rintro _ rfl
  refine ⟨_, rfl, ?_⟩
  refine ⟨_, rfl, ?_⟩
  refine iteF (W.nil ?_)
  refine W.cons ?_
  refine W1.iff ?_
  refine T.not ?_
  refine T.cmp ?_
  refine E.var 0 rfl ?_
  refine E.dmake MI tR.mgR (hr.mono (by decide)) ?_
  refine A.cons ?_
  refine E.ix ?_
  refine E.var 3 rfl ?_
  refine E.int ?_
  walk_at "ix"
  refine A.cons ?_
  refine E.ix ?_
  refine E.var 3 rfl ?_
  refine E.int ?_
  walk_at "ix"
  refine A.nil ?_
  refine ⟨[.int _, .int _], rfl, ⟨_, _, rfl, hb, bA.mono (by decide), bB.mono (by decide)⟩, ?_⟩
  rintro fs ⟨p, q, rfl, hp⟩
  have hp : Nrm a b p q := hp
  refine O2.dEq MEq (hr.mono (by decide)) tR.nfR (.inl ⟨_, _, _, _, rfl, ok1, okn hp hb bA bB⟩) ?_
  rintro _ rfl
  have s4 : (true && (decide (n = p) && decide (d = q))) = true := by rw [eq_same hn1 hp hb hb, decide_eq_true rfl]
  refine ⟨_, rfl, ?_⟩
  show if (!(true && (decide (n = p) && decide (d = q)))) = true then _ else _
  rw [s4]
  refine iteF (W.nil ?_)
  have z1 := nrm_zero hn1 hb
  have z2 := nrm_zero hn2 he
  have zz : ∀ x y : Int, (x = 0 ↔ y = 0) → (decide (x ≠ 0) == !decide (y = 0)) = true := fun x y h => by
    by_cases hy : y = 0
    · rw [decide_eq_true hy, decide_eq_false fun z => z (h.mpr hy)]; rfl
    · have hx : x ≠ 0 := fun z => hy (h.mp z)
      rw [decide_eq_false hy, decide_eq_true hx]; rfl
  refine W.cons ?_
  refine W1.ret ?_
  refine E.and ?_
  refine E.cmp ?_
  refine E.callTy B.bool bt_bool ?_
  refine A.cons ?_
  refine E.var 0 rfl ?_
  refine A.nil ?_
  refine Cl.dBool MBool (hr.mono (by decide)) ⟨_, _, rfl, ok1⟩ ?_
  rintro _ rfl
  refine ⟨_, rfl, ?_⟩
  refine E.cmp ?_
  refine E.ix ?_
  refine E.var 3 rfl ?_
  refine E.int ?_
  walk_at "ix"
  refine E.int ?_
  walk_at "o"
  walk_at "o"
  refine ⟨_, rfl, ?_⟩
  show if (decide (n ≠ 0) == !decide (a = 0)) = true then _ else _
  rw [zz n a z1]
  refine iteT ?_
  refine E.one ?_
  refine E.cmp ?_
  refine E.callTy B.bool bt_bool ?_
  refine A.cons ?_
  refine E.var 1 rfl ?_
  refine A.nil ?_
  refine Cl.dBool MBool (hr.mono (by decide)) ⟨_, _, rfl, ok2⟩ ?_
  rintro _ rfl
  refine ⟨_, rfl, ?_⟩
  refine E.cmp ?_
  refine E.ix ?_
  refine E.var 4 rfl ?_
  refine E.int ?_
  walk_at "ix"
  refine E.int ?_
  walk_at "o"
  walk_at "o"
  exact ⟨_, rfl, by show D.bl (decide (m ≠ 0) == !decide (c = 0)) = _; rw [zz m c z2]⟩
end

theorem bt_ValueError : bootBuiltins "ValueError" = some (.type "ValueError") := by decide +kernel
local macro_rules | `(tactic| walk_at "cl") => `(tactic| refine Cl.isiExc (by assumption) (by assumption) (by assumption) (fun _ _ => relv_ref) (by assumption) ?_)
local macro_rules | `(tactic| walk_at "cl") => `(tactic| refine Cl.isiExc (by assumption) (by assumption) (by assumption) (fun _ _ => relv_ty) (by assumption) ?_)
/-- the classes of errors -/
structure ExT (K : PySem.W.Frag) (mg : Str → Option Value) (Z S N L : Addr) : Prop where
  z : ZdT K mg Z
  mgS : mg "SpotError" = some (.ref S)
  mgB : mg "BadNumber" = some (.ref N)
  mgT : mg "TooLarge" = some (.ref L)
  mgV : mg "ValueError" = none
  exc : ExcC K Z
  exm : PySem.W.exmOne K (.ref Z) (.ref S) = some true
  kZ : PySem.W.kitOne K (.ref Z) (.ref Z) = some true
  kV : PySem.W.kitOne K (.ref Z) (.type "ValueError") = some true
  kN : PySem.W.kitOne K (.ref Z) (.ref N) = some false
  kL : PySem.W.kitOne K (.ref Z) (.ref L) = some false
section
variable {P : Program} {w : World} {K : PySem.W.Frag} {mg : Str → Option Value} {base : Heap} {C Z S N L : Addr} {f : Addr} {fd : FuncData}
structure RatX (P : Program) (w : World) (K : PySem.W.Frag) (mg : Str → Option Value) (base : Heap) (C Z : Addr) : Prop where
  MIX : IOk P w K mg base (L2.CX P w) C 1 [] (spIX K C ["top", "bottom"] preIX postIX (excI Z))
  MOverX : MOk P w K mg base (L2.CX P w) C "over" 3 (spX K (pre2 C) (postOverX C) (excI Z))
def preRef (C : Addr) : List D → Prop := fun ds => ∃ n d a b j : Int, ds = [rat C n d, .int a, .int j] ∧ Nrm a b n d ∧ b ≠ 0 ∧ Bd 220 a ∧ Bd 220 b ∧ 0 ≤ j ∧ j < 4
abbrev sRefused : Stmt := top 30
theorem scRefused : FnScope ["first", "above", "kind", "flags", "e", "others"] ["first", "above", "kind"] (defScope sRefused) := ⟨rfl, rfl, rfl, by decide +kernel, rfl, by decide +kernel, by decide +kernel⟩
theorem ok_refused (F : Df K mg "_law_refused" sRefused ["first", "above", "kind"] f fd) (RM : RatM P w K mg base C) (RX : RatX P w K mg base C Z) (tX : ExT K mg Z S N L) : FnOk P w K mg base CX0 5 f fd ["first", "above", "kind"] (spF K (preRef C) isTrue1) := by
  obtain ⟨B, tR, MI, MI1, MAdd, MSub, MMul, MRadd, MRsub, MRmul, MNeg, MAbs, MOver, MSign, MEq, MBool⟩ := RM
  obtain ⟨MIX, MOverX⟩ := RX
  refine ok_F F.fn scRefused (fun ds h => by obtain ⟨_, _, _, _, _, e, _⟩ := h; rw [e]; rfl) fun cdv Ar outer sh Hp0 xE Fr ds hr hm ⟨n, d, a, b, j, eq, hn1, hb, bA, bB, j0, j4⟩ => ?_
  have nd := scRefused.nd
  subst eq
  have ok1 := okn hn1 hb bA bB
  have bA4 := bA.mono (show 220 ≤ 4000 by decide)
  show W _ _ _ _ _ [some (.d (rat C n d)), some (.d (.int a)), some (.d (.int j)), none, none, none]
  refine W.cons ?_
  refine W1.set 3 ?_ nd
  refine E.lst ?_
  refine A.nil ?_
  walk_at "disp"
  walk_at "n"
  refine W.cut (fun o r => ∃ u v, r = [some (.d (rat C n d)), some (.d (.int a)), some (.d (.int j)), some (.d (.lst [.bl true, .bl true, .bl false])), u, v]) ?_ ?_
  · refine W1.tryAs (n := "e") (i := 4) (c := .ref S) (fun cls o r => cls = .ref Z ∧ r = [some (.d (rat C n d)), some (.d (.int a)), some (.d (.int j)), some (.d (.lst [])), none, none]) rfl rfl nd rfl rfl ⟨rfl, by decide, Or.inl tX.mgS⟩ takes0 ?_ ?_
    · intro pn xe F' e1 e2 e3 po tk
      have hr2 : Room 3 _ := hr.mono (by decide)
      refine W.cons ?_
      refine W1.iff ?_
      refine T.cmp ?_
      refine E.var 2 rfl ?_
      refine E.int ?_
      walk_at "o"
      refine ⟨_, rfl, ?_⟩
      refine ifd (fun h => ?_) (fun h => W.nil ?_)
      · skip
        refine W.cons ?_
        refine W1.expr ?_
        refine E.dmakeX tk MIX tR.mgR (hr.mono (by decide)) ?_
        refine A.cons ?_
        refine E.var 1 rfl ?_
        refine A.cons ?_
        refine E.int ?_
        refine A.nil ?_
        refine ⟨[.int _, .int _], rfl, ⟨_, _, rfl, bA4.mono (by decide), Bd.lit⟩, ?_, ?_⟩
        · rintro _ ⟨_, hz⟩
          exact absurd rfl hz
        · rintro c ⟨_, rfl⟩
          exact ⟨rfl, rfl⟩
      refine W.cons ?_
      refine W1.iff ?_
      refine T.cmp ?_
      refine E.var 2 rfl ?_
      refine E.int ?_
      walk_at "o"
      refine ⟨_, rfl, ?_⟩
      refine ifd (fun h => ?_) (fun h => W.nil ?_)
      · skip
        refine W.cons ?_
        refine W1.expr ?_
        refine E.dmethX tk tR.cls MOverX (hr.mono (by decide)) ?_
        refine E.var 0 rfl ?_
        refine ⟨_, _, rfl, rfl, ?_⟩
        refine A.cons ?_
        refine E.int ?_
        refine A.nil ?_
        refine ⟨[.int _], rfl, .inr ⟨_, _, _, rfl, ok1, Bd.lit⟩, ?_, ?_⟩
        · rintro _ ⟨_, hz⟩
          exact absurd rfl hz
        · rintro c ⟨_, rfl⟩
          exact ⟨rfl, rfl⟩
      refine W.cons ?_
      refine W1.iff ?_
      refine T.cmp ?_
      refine E.var 2 rfl ?_
      refine E.int ?_
      walk_at "o"
      refine ⟨_, rfl, ?_⟩
      refine ifd (fun h => ?_) (fun h => W.nil ?_)
      · skip
        refine W.cons ?_
        refine W1.expr ?_
        refine E.dmethX tk tR.cls MOverX (hr.mono (by decide)) ?_
        refine E.var 0 rfl ?_
        refine ⟨_, _, rfl, rfl, ?_⟩
        refine A.cons ?_
        refine E.dmake MI tR.mgR (hr.mono (by decide)) ?_
        refine A.cons ?_
        refine E.int ?_
        refine A.cons ?_
        refine E.int ?_
        refine A.nil ?_
        refine ⟨[.int _, .int _], rfl, ⟨_, _, rfl, by decide, Bd.lit, Bd.lit⟩, ?_⟩
        rintro fs ⟨p, q, rfl, hp⟩
        have hp : Nrm 0 7 p q := hp
        have hp0 : p = 0 := (nrm_zero hp (by decide)).mpr rfl
        refine A.nil ?_
        refine ⟨[_], rfl, .inl ⟨_, _, _, _, rfl, ok1, okn (k := 1) (j := 3) hp (by decide) Bd.lit Bd.lit⟩, ?_, ?_⟩
        · rintro _ ⟨_, hz⟩
          exact absurd hp0 hz
        · rintro c ⟨_, rfl⟩
          exact ⟨rfl, rfl⟩
      refine W.cons ?_
      refine W1.iff ?_
      refine T.cmp ?_
      refine E.var 2 rfl ?_
      refine E.int ?_
      walk_at "o"
      refine ⟨_, rfl, ?_⟩
      refine ifd (fun h => ?_) (fun h => absurd h (by omega))
      · skip
        refine W.cons ?_
        refine W1.expr ?_
        refine E.dmethX tk tR.cls MOverX (hr.mono (by decide)) ?_
        refine E.var 0 rfl ?_
        refine ⟨_, _, rfl, rfl, ?_⟩
        refine A.cons ?_
        refine E.bin ?_
        refine E.var 0 rfl ?_
        refine E.var 0 rfl ?_
        refine O2.dB tR.sf dn_sub MSub (hr.mono (by decide)) (.inl ⟨_, _, _, _, rfl, ok1, ok1⟩) ?_
        rintro _ ⟨p, q, rfl, hp⟩
        have hp : Nrm (n * d - n * d) (d * d) p q := hp
        have hd := hn1.1
        have hp0 : p = 0 := (nrm_zero hp (Int.mul_ne_zero (by omega) (by omega))).mpr (by omega)
        have hh := okh hn1 hb bA bB
        refine A.nil ?_
        refine ⟨[_], rfl, .inl ⟨_, _, _, _, rfl, ok1, okn (k := 3801) (j := 3800) hp (Int.mul_ne_zero (by omega) (by omega)) (hh.2.1.mul hh.2.2 |>.sub (hh.2.1.mul hh.2.2)) (hh.2.2.mul hh.2.2)⟩, ?_, ?_⟩
        · rintro _ ⟨_, hz⟩
          exact absurd hp0 hz
        · rintro c ⟨_, rfl⟩
          exact ⟨rfl, rfl⟩
    · rintro ad oe cls pn o ρ hz hf ⟨rfl, rfl⟩
      refine ⟨tX.exm, ?_⟩
      have x1 := tX.exc
      have x2 := tX.kZ
      have x3 := tX.kV
      have x4 := tX.kN
      have x5 := tX.kL
      refine W.cons ?_
      refine W1.set 5 ?_ nd
      refine E.or ?_
      refine E.callB B.isinstance bt_isinstance ?_
      refine A.cons ?_
      refine E.var 4 rfl ?_
      refine A.cons ?_
      refine E.globR tX.mgB ?_
      refine A.nil ?_
      walk_at "cl"
      refine ⟨_, rfl, ?_⟩
      refine iteF ?_
      refine E.one ?_
      refine E.callB B.isinstance bt_isinstance ?_
      refine A.cons ?_
      refine E.var 4 rfl ?_
      refine A.cons ?_
      refine E.globR tX.mgT ?_
      refine A.nil ?_
      walk_at "cl"
      walk_at "n"
      refine W.cons ?_
      refine W1.set 3 ?_ nd
      refine E.lst ?_
      refine A.cons ?_
      refine E.callB B.isinstance bt_isinstance ?_
      refine A.cons ?_
      refine E.var 4 rfl ?_
      refine A.cons ?_
      refine E.globR tX.z.mgZ ?_
      refine A.nil ?_
      walk_at "cl"
      refine A.cons ?_
      refine E.callB B.isinstance bt_isinstance ?_
      refine A.cons ?_
      refine E.var 4 rfl ?_
      refine A.cons ?_
      refine E.bty tX.mgV bt_ValueError ?_
      refine A.nil ?_
      walk_at "cl"
      refine A.cons ?_
      refine E.var 5 rfl ?_
      refine A.nil ?_
      walk_at "disp"
      walk_at "n"
      exact W.nil ⟨_, _, rfl⟩
  rintro o ρ ⟨u, v, rfl⟩
  refine W.cons ?_
  refine W1.ret ?_
  refine E.cmp ?_
  refine E.var 3 rfl ?_
  refine E.lst ?_
  refine A.cons ?_
  refine E.bl ?_
  refine A.cons ?_
  refine E.bl ?_
  refine A.cons ?_
  refine E.bl ?_
  refine A.nil ?_
  walk_at "disp"
  refine O2.eqL (xs := [.b true, .b true, .b false]) (ys := [.b true, .b true, .b false]) (r := true) hr.units rfl rfl (by decide) (by decide) (by decide) ?_
  exact ⟨_, rfl, rfl⟩
end

section
variable {P : Program} {w : World} {K : PySem.W.Frag} {mg : Str → Option Value} {base : Heap} {C : Addr} {f : Addr} {fd : FuncData}
structure LawH (P : Program) (w : World) (K : PySem.W.Frag) (mg : Str → Option Value) (base : Heap) (C : Addr) : Prop where
  GPool : DOk P w K mg base CX0 "_law_pool" 1 (spN K preP fun _ => PoolI)
  GFrac : KFrac P w K mg base
  GSec : DOk P w K mg base CX0 "_law_second" 4 (spP K PoolI preT postSec)
  GBes : DOk P w K mg base CX0 "_law_beside" 3 (spP K PoolI preT postBes)
  GRight : KRight P w K mg base C
  GRes : DOk P w K mg base CX0 "_law_results" 5 (spF K (preRes C) isTrue1)
  GCmp : DOk P w K mg base CX0 "_law_compared" 5 (spF K (pre5 C) isTrue1)
  GSigns : DOk P w K mg base CX0 "_law_signs" 5 (spF K (pre4 C) isTrue1)
  GRef : DOk P w K mg base CX0 "_law_refused" 5 (spF K (preRef C) isTrue1)
abbrev sLaw : Stmt := top 31
theorem scLaw : FnScope ["script", "pool", "one", "two", "number", "first", "second", "kind"] ["script"] (defScope sLaw) := ⟨rfl, rfl, rfl, by decide +kernel, rfl, by decide +kernel, by decide +kernel⟩
theorem ok_law (F : Df K mg "law" sLaw ["script"] f fd) (RM : RatM P w K mg base C) (LH : LawH P w K mg base C) : FnOk P w K mg base CX0 6 f fd ["script"] (spF K preP isTrue1) := by
  obtain ⟨B, tR, MI, MI1, MAdd, MSub, MMul, MRadd, MRsub, MRmul, MNeg, MAbs, MOver, MSign, MEq, MBool⟩ := RM
  obtain ⟨GPool, GFrac, GSec, GBes, GRight, GRes, GCmp, GSigns, GRef⟩ := LH
  refine ok_F F.fn scLaw (fun ds h => by obtain ⟨_, e, _⟩ := h; rw [e]; rfl) fun cdv Ar outer sh Hp0 xE Fr ds hr hm ⟨ns, eq, hz⟩ => ?_
  have nd := scLaw.nd
  subst eq
  show W _ _ _ _ _ [some (.d (.rol (ns.map D.int))), none, none, none, none, none, none, none]
  refine W.cons ?_
  refine W1.set 1 ?_ nd
  refine E.dcallN GPool (hr.mono (by decide)) ?_
  refine A.cons ?_
  refine E.var 0 rfl ?_
  refine A.nil ?_
  refine ⟨[_], rfl, ⟨ns, rfl, hz⟩, ?_⟩
  walk_at "n"
  refine W.cons ?_
  refine W1.set 2 ?_ nd
  refine E.dcallP GFrac (hr.mono (by decide)) ?_
  refine A.cons ?_
  refine E.var 1 rfl ?_
  refine A.nil ?_
  refine ⟨0, [], rfl, rfl, rfl, ?_⟩
  rintro _ ⟨a, b, rfl, bA, bB, hb⟩
  walk_at "n"
  refine W.cons ?_
  refine W1.set 3 ?_ nd
  refine E.dcallP GSec (hr.mono (by decide)) ?_
  refine A.cons ?_
  refine E.var 1 rfl ?_
  refine A.cons ?_
  refine E.var 2 rfl ?_
  refine A.nil ?_
  refine ⟨0, [_], rfl, rfl, ⟨a, b, rfl, bA, bB, hb⟩, ?_⟩
  rintro _ ⟨c, e, rfl, bC, bE, he⟩
  walk_at "n"
  refine W.cons ?_
  refine W1.set 4 ?_ nd
  refine E.dcallP GBes (hr.mono (by decide)) ?_
  refine A.cons ?_
  refine E.var 1 rfl ?_
  refine A.cons ?_
  refine E.var 2 rfl ?_
  refine A.nil ?_
  refine ⟨0, [_], rfl, rfl, ⟨a, b, rfl, bA, bB, hb⟩, ?_⟩
  rintro _ ⟨i, rfl, bI⟩
  walk_at "n"
  have bA := bA.mono (show 200 ≤ 220 by decide)
  have bB := bB.mono (show 200 ≤ 220 by decide)
  have bA4 := bA.mono (show 220 ≤ 4000 by decide)
  have bB4 := bB.mono (show 220 ≤ 4000 by decide)
  have bC4 := bC.mono (show 220 ≤ 4000 by decide)
  have bE4 := bE.mono (show 220 ≤ 4000 by decide)
  refine W.cons ?_
  refine W1.set 5 ?_ nd
  refine E.dmake MI tR.mgR (hr.mono (by decide)) ?_
  refine A.cons ?_
  refine E.ix ?_
  refine E.var 2 rfl ?_
  refine E.int ?_
  walk_at "ix"
  refine A.cons ?_
  refine E.ix ?_
  refine E.var 2 rfl ?_
  refine E.int ?_
  walk_at "ix"
  refine A.nil ?_
  refine ⟨[.int _, .int _], rfl, ⟨_, _, rfl, hb, bA.mono (by decide), bB.mono (by decide)⟩, ?_⟩
  rintro fs ⟨n, d, rfl, hn1⟩
  have hn1 : Nrm a b n d := hn1
  walk_at "n"
  refine W.cons ?_
  refine W1.set 6 ?_ nd
  refine E.dmake MI tR.mgR (hr.mono (by decide)) ?_
  refine A.cons ?_
  refine E.ix ?_
  refine E.var 3 rfl ?_
  refine E.int ?_
  walk_at "ix"
  refine A.cons ?_
  refine E.ix ?_
  refine E.var 3 rfl ?_
  refine E.int ?_
  walk_at "ix"
  refine A.nil ?_
  refine ⟨[.int _, .int _], rfl, ⟨_, _, rfl, he, bC.mono (by decide), bE.mono (by decide)⟩, ?_⟩
  rintro fs ⟨m, k, rfl, hn2⟩
  have hn2 : Nrm c e m k := hn2
  have ok1 := okn hn1 hb bA bB
  have ok2 := okn hn2 he bC bE
  walk_at "n"
  refine W.cons ?_
  refine W1.iff ?_
  refine Tw.t ?_
  refine Tw.or ?_
  refine T.not ?_
  refine T.truth ?_
  refine E.dcall GRight (hr.mono (by decide)) ?_
  refine A.cons ?_
  refine E.var 5 rfl ?_
  refine A.cons ?_
  refine E.var 2 rfl ?_
  refine A.nil ?_
  refine ⟨[_, _], rfl, ⟨_, _, _, _, rfl, hn1, hb, bA4, bB4⟩, ?_⟩
  rintro _ rfl
  walk_at "tr"
  refine iteF ?_
  refine Tw.or1 ?_
  refine T.not ?_
  refine T.truth ?_
  refine E.dcall GRight (hr.mono (by decide)) ?_
  refine A.cons ?_
  refine E.var 6 rfl ?_
  refine A.cons ?_
  refine E.var 3 rfl ?_
  refine A.nil ?_
  refine ⟨[_, _], rfl, ⟨_, _, _, _, rfl, hn2, he, bC4, bE4⟩, ?_⟩
  rintro _ rfl
  walk_at "tr"
  refine iteF (W.nil ?_)
  refine W.cons ?_
  refine W1.iff ?_
  refine T.not ?_
  refine T.truth ?_
  refine E.dcall GRes (hr.mono (by decide)) ?_
  refine A.cons ?_
  refine E.var 5 rfl ?_
  refine A.cons ?_
  refine E.var 6 rfl ?_
  refine A.cons ?_
  refine E.var 4 rfl ?_
  refine A.cons ?_
  refine E.var 2 rfl ?_
  refine A.cons ?_
  refine E.var 3 rfl ?_
  refine A.nil ?_
  refine ⟨[_, _, _, _, _], rfl, ⟨_, _, _, _, _, _, _, _, _, rfl, hn1, hn2, hb, he, bA, bB, bC, bE, bI⟩, ?_⟩
  rintro _ rfl
  walk_at "tr"
  refine iteF (W.nil ?_)
  refine W.cons ?_
  refine W1.iff ?_
  refine Tw.t ?_
  refine Tw.or ?_
  refine T.not ?_
  refine T.truth ?_
  refine E.dcall GCmp (hr.mono (by decide)) ?_
  refine A.cons ?_
  refine E.var 5 rfl ?_
  refine A.cons ?_
  refine E.var 6 rfl ?_
  refine A.cons ?_
  refine E.var 4 rfl ?_
  refine A.cons ?_
  refine E.var 2 rfl ?_
  refine A.cons ?_
  refine E.var 3 rfl ?_
  refine A.nil ?_
  refine ⟨[_, _, _, _, _], rfl, ⟨_, _, _, _, _, _, _, _, _, rfl, hn1, hn2, hb, he, bA, bB, bC, bE, bI⟩, ?_⟩
  rintro _ rfl
  walk_at "tr"
  refine iteF ?_
  refine Tw.or1 ?_
  refine T.not ?_
  refine T.truth ?_
  refine E.dcall GSigns (hr.mono (by decide)) ?_
  refine A.cons ?_
  refine E.var 5 rfl ?_
  refine A.cons ?_
  refine E.var 6 rfl ?_
  refine A.cons ?_
  refine E.var 2 rfl ?_
  refine A.cons ?_
  refine E.var 3 rfl ?_
  refine A.nil ?_
  refine ⟨[_, _, _, _], rfl, ⟨_, _, _, _, _, _, _, _, rfl, hn1, hn2, hb, he, bA, bB, bC, bE⟩, ?_⟩
  rintro _ rfl
  walk_at "tr"
  refine iteF (W.nil ?_)
  refine W.cut (fun o r => ∃ z, r = [some (.d (.rol (ns.map D.int))), some (.c 0), some (.d (.tup [.int a, .int b])), some (.d (.tup [.int c, .int e])), some (.d (.int i)), some (.d (rat C n d)), some (.d (rat C m k)), z]) ?_ ?_
  · refine W1.forR (fun j o r => ∃ z, r = [some (.d (.rol (ns.map D.int))), some (.c 0), some (.d (.tup [.int a, .int b])), some (.d (.tup [.int c, .int e])), some (.d (.int i)), some (.d (rat C n d)), some (.d (rat C m k)), z]) B.range rfl PassesOwn.never ?_
    refine E.int ?_
    refine ⟨_, rfl, ⟨by decide, by decide⟩, ⟨_, rfl⟩, ?_, fun _ _ z => z⟩
    rintro j o ρ hj ⟨z, rfl⟩
    refine Tg.name 7 ?_ nd
    refine W.cons ?_
    refine W1.iff ?_
    refine T.not ?_
    refine T.truth ?_
    refine E.dcall GRef (hr.mono (by decide)) ?_
    refine A.cons ?_
    refine E.var 5 rfl ?_
    refine A.cons ?_
    refine E.ix ?_
    refine E.var 2 rfl ?_
    refine E.int ?_
    walk_at "ix"
    refine A.cons ?_
    refine E.var 7 rfl ?_
    refine A.nil ?_
    refine ⟨[_, _, _], rfl, ⟨_, _, _, _, _, rfl, hn1, hb, bA, bB, by omega, by have : (4 : Int).toNat = 4 := rfl; omega⟩, ?_⟩
    rintro _ rfl
    walk_at "tr"
    exact iteF (W.nil (W.nil ⟨_, rfl⟩))
  rintro o ρ ⟨z, rfl⟩
  refine W.cons ?_
  refine W1.iff ?_
  refine Tw.t ?_
  refine Tw.or ?_
  refine T.not ?_
  refine T.truth ?_
  refine E.dcall GRight (hr.mono (by decide)) ?_
  refine A.cons ?_
  refine E.dmake MI tR.mgR (hr.mono (by decide)) ?_
  refine A.cons ?_
  refine E.ix ?_
  refine E.var 2 rfl ?_
  refine E.int ?_
  walk_at "ix"
  refine A.cons ?_
  refine E.int ?_
  refine A.nil ?_
  refine ⟨[.int _, .int _], rfl, ⟨_, _, rfl, by decide, bA.mono (by decide), Bd.lit⟩, ?_⟩
  rintro fs ⟨p, q, rfl, hp⟩
  have hp : Nrm a 1 p q := hp
  refine A.cons ?_
  refine E.tup ?_
  refine A.cons ?_
  refine E.ix ?_
  refine E.var 2 rfl ?_
  refine E.int ?_
  walk_at "ix"
  refine A.cons ?_
  refine E.int ?_
  refine A.nil ?_
  walk_at "disp"
  refine A.nil ?_
  refine ⟨[_, _], rfl, ⟨_, _, _, _, rfl, hp, by decide, bA4, Bd.lit⟩, ?_⟩
  rintro _ rfl
  walk_at "tr"
  refine iteF ?_
  refine Tw.or1 ?_
  refine T.not ?_
  refine T.truth ?_
  refine E.dcall GRight (hr.mono (by decide)) ?_
  refine A.cons ?_
  refine E.dmake MI tR.mgR (hr.mono (by decide)) ?_
  refine A.cons ?_
  refine E.ix ?_
  refine E.var 2 rfl ?_
  refine E.int ?_
  walk_at "ix"
  refine A.cons ?_
  refine E.un ?_
  refine E.int ?_
  walk_at "u"
  refine A.nil ?_
  refine ⟨[.int _, .int _], rfl, ⟨_, _, rfl, by decide, bA.mono (by decide), Bd.lit⟩, ?_⟩
  rintro fs ⟨p2, q2, rfl, hp2⟩
  have hp2 : Nrm a (-1) p2 q2 := hp2
  refine A.cons ?_
  refine E.tup ?_
  refine A.cons ?_
  refine E.un ?_
  refine E.ix ?_
  refine E.var 2 rfl ?_
  refine E.int ?_
  walk_at "ix"
  walk_at "u"
  refine A.cons ?_
  refine E.int ?_
  refine A.nil ?_
  walk_at "disp"
  refine A.nil ?_
  refine ⟨[_, _], rfl, ⟨_, _, _, _, rfl, hp2.conv (by decide) (by omega), by decide, bA4.neg, Bd.lit⟩, ?_⟩
  rintro _ rfl
  walk_at "tr"
  refine iteF (W.nil ?_)
  refine W.cons ?_
  refine W1.iff ?_
  refine Tw.t ?_
  refine Tw.or ?_
  refine T.not ?_
  refine T.truth ?_
  refine E.dcall GRight (hr.mono (by decide)) ?_
  refine A.cons ?_
  refine E.dmeth tR.cls MOver (hr.mono (by decide)) ?_
  refine E.var 5 rfl ?_
  refine ⟨_, _, rfl, rfl, ?_⟩
  refine A.cons ?_
  refine E.int ?_
  refine A.nil ?_
  refine ⟨[.int _], rfl, ⟨.inr ⟨_, _, _, rfl, ok1, Bd.lit⟩, show (1 : Int) ≠ 0 by decide⟩, ?_⟩
  rintro _ ⟨p3, q3, rfl, hp3⟩
  have hp3 : Nrm (n * 1) (d * 1) p3 q3 := hp3
  rw [Int.mul_one, Int.mul_one] at hp3
  refine A.cons ?_
  refine E.var 2 rfl ?_
  refine A.nil ?_
  refine ⟨[_, _], rfl, ⟨_, _, _, _, rfl, hp3.conv (nrm_pos_ne hn1) hn1.2.1, hb, bA4, bB4⟩, ?_⟩
  rintro _ rfl
  walk_at "tr"
  refine iteF ?_
  refine Tw.or1 ?_
  refine T.not ?_
  refine T.truth ?_
  refine E.dcall GRight (hr.mono (by decide)) ?_
  refine A.cons ?_
  refine E.dmeth tR.cls MOver (hr.mono (by decide)) ?_
  refine E.var 5 rfl ?_
  refine ⟨_, _, rfl, rfl, ?_⟩
  refine A.cons ?_
  refine E.un ?_
  refine E.int ?_
  walk_at "u"
  refine A.nil ?_
  refine ⟨[.int _], rfl, ⟨.inr ⟨_, _, _, rfl, ok1, Bd.lit⟩, show (-1 : Int) ≠ 0 by decide⟩, ?_⟩
  rintro _ ⟨p4, q4, rfl, hp4⟩
  have hp4 : Nrm (n * 1) (d * (-1)) p4 q4 := hp4
  refine A.cons ?_
  refine E.tup ?_
  refine A.cons ?_
  refine E.un ?_
  refine E.ix ?_
  refine E.var 2 rfl ?_
  refine E.int ?_
  walk_at "ix"
  walk_at "u"
  refine A.cons ?_
  refine E.ix ?_
  refine E.var 2 rfl ?_
  refine E.int ?_
  walk_at "ix"
  refine A.nil ?_
  walk_at "disp"
  refine A.nil ?_
  refine ⟨[_, _], rfl, ⟨_, _, _, _, rfl, hp4.conv (Int.mul_ne_zero (nrm_pos_ne hn1) (by decide)) (by have := hn1.2.1; grind), hb, bA4.neg, bB4⟩, ?_⟩
  rintro _ rfl
  walk_at "tr"
  refine iteF (W.nil ?_)
  refine W.cons ?_
  refine W1.iff ?_
  refine Tw.t ?_
  refine Tw.or ?_
  refine T.not ?_
  refine T.truth ?_
  refine E.dcall GRight (hr.mono (by decide)) ?_
  refine A.cons ?_
  refine E.var 5 rfl ?_
  refine A.cons ?_
  refine E.var 2 rfl ?_
  refine A.nil ?_
  refine ⟨[_, _], rfl, ⟨_, _, _, _, rfl, hn1, hb, bA4, bB4⟩, ?_⟩
  rintro _ rfl
  walk_at "tr"
  refine iteF ?_
  refine Tw.or1 ?_
  refine T.not ?_
  refine T.truth ?_
  refine E.dcall GRight (hr.mono (by decide)) ?_
  refine A.cons ?_
  refine E.var 6 rfl ?_
  refine A.cons ?_
  refine E.var 3 rfl ?_
  refine A.nil ?_
  refine ⟨[_, _], rfl, ⟨_, _, _, _, rfl, hn2, he, bC4, bE4⟩, ?_⟩
  rintro _ rfl
  walk_at "tr"
  refine iteF (W.nil ?_)
  refine W.cons ?_
  refine W1.ret ?_
  refine E.dcall GRight (hr.mono (by decide)) ?_
  refine A.cons ?_
  refine E.bin ?_
  refine E.var 5 rfl ?_
  refine E.var 6 rfl ?_
  refine O2.dB tR.sf dn_add MAdd (hr.mono (by decide)) (.inl ⟨_, _, _, _, rfl, ok1, ok2⟩) ?_
  rintro _ ⟨p, q, rfl, h⟩
  refine A.cons ?_
  refine E.tup ?_
  refine A.cons ?_
  refine E.bin ?_
  refine E.bin ?_
  refine E.ix ?_
  refine E.var 2 rfl ?_
  refine E.int ?_
  walk_at "ix"
  refine E.ix ?_
  refine E.var 3 rfl ?_
  refine E.int ?_
  walk_at "ix"
  walk_at "o"
  refine E.bin ?_
  refine E.ix ?_
  refine E.var 3 rfl ?_
  refine E.int ?_
  walk_at "ix"
  refine E.ix ?_
  refine E.var 2 rfl ?_
  refine E.int ?_
  walk_at "ix"
  walk_at "o"
  walk_at "o"
  refine A.cons ?_
  refine E.bin ?_
  refine E.ix ?_
  refine E.var 2 rfl ?_
  refine E.int ?_
  walk_at "ix"
  refine E.ix ?_
  refine E.var 3 rfl ?_
  refine E.int ?_
  walk_at "ix"
  walk_at "o"
  refine A.nil ?_
  walk_at "disp"
  refine A.nil ?_
  refine ⟨[_, _], rfl, ⟨_, _, _, _, rfl, l_add hn1 hn2 h, Int.mul_ne_zero hb he, ((bA.mul bE).add (bC.mul bB)).mono (by decide), (bB.mul bE).mono (by decide)⟩, ?_⟩
  rintro _ rfl
  exact ⟨_, rfl, rfl⟩
end

end Toy
namespace Toy
open PySem PySem.Spec PyProof.Rows L2 DL RT
theorem all_mk {l : PySem.W.OpenLaw} {w : World} {K : PySem.W.Frag} {h : Heap} {mg : Str → Option Value} {fa C TT f1 f2 f3 f4 f5 f6 f7 f8 f9 f10 f11 f12 f13 f14 f15 f16 f17 f18 f19 f20 f21 f22 f23 f24 f25 f26 f27 f28 f29 : Addr} (X : K.In h) (G : h.Ns mainGlobals mg) (hfa : mg "law" = some (.ref fa))
    {od1 an1 od2 an2 od3 an3 od4 an4 od5 an5 od6 an6 od7 an7 od8 an8 od9 an9 od10 an10 od11 an11 od12 an12 od13 an13 od14 an14 od15 an15 od16 an16 od17 an17 od18 an18 od19 an19 od20 an20 od21 an21 od22 an22 od23 an23 od24 an24 od25 an25 od26 an26 od27 an27 od28 an28 od29 an29 : Option Addr} {sl1 sl2 sl3 sl4 sl5 sl6 sl7 sl8 sl9 sl10 sl11 sl12 sl13 sl14 sl15 sl16 sl17 sl18 sl19 sl20 sl21 sl22 sl23 sl24 sl25 sl26 sl27 sl28 sl29 : Array (Option Value)} {oc1 kV1 dc1 pm1 cd1 ct1 oc2 kV2 dc2 pm2 cd2 ct2 oc3 kV3 dc3 pm3 cd3 ct3 oc4 kV4 dc4 pm4 cd4 ct4 oc5 kV5 dc5 pm5 cd5 ct5 oc6 kV6 dc6 pm6 cd6 ct6 oc7 kV7 dc7 pm7 cd7 ct7 oc8 kV8 dc8 pm8 cd8 ct8 oc9 kV9 dc9 pm9 cd9 ct9 oc10 kV10 dc10 pm10 cd10 ct10 oc11 kV11 dc11 pm11 cd11 ct11 oc12 kV12 dc12 pm12 cd12 ct12 oc13 kV13 dc13 pm13 cd13 ct13 oc14 kV14 dc14 pm14 cd14 ct14 oc15 kV15 dc15 pm15 cd15 ct15 oc16 kV16 dc16 pm16 cd16 ct16 oc17 kV17 dc17 pm17 cd17 ct17 oc18 kV18 dc18 pm18 cd18 ct18 oc19 kV19 dc19 pm19 cd19 ct19 oc20 kV20 dc20 pm20 cd20 ct20 oc21 kV21 dc21 pm21 cd21 ct21 oc22 kV22 dc22 pm22 cd22 ct22 oc23 kV23 dc23 pm23 cd23 ct23 oc24 kV24 dc24 pm24 cd24 ct24 oc25 kV25 dc25 pm25 cd25 ct25 oc26 kV26 dc26 pm26 cd26 ct26 oc27 kV27 dc27 pm27 cd27 ct27 oc28 kV28 dc28 pm28 cd28 ct28 oc29 kV29 dc29 pm29 cd29 ct29 : Value} {Z S N L : Addr} {foA foRA foS foRS foM foRM : Option Value} {oT : Obj} {tk : Tok} {nT0 : Nat}
    (aC : PySem.W.nsIn K mainGlobals "Ratio" = some (some (.ref C)))
    (pg : PySem.W.plainGet K C Str.empty = true)
    (hd : PySem.W.hasDictIn K C = true)
    (po : PySem.W.plainOver K C = true)
    (sa : PySem.W.findIn K (.ref C) "__setattr__" = some (some (.builtin "object.__setattr__")))
    (mk : PySem.W.makesIn K C = true)
    (kc : PySem.W.keepIn K (.ref C) = true)
    (nT : PySem.W.findIn K (.ref C) "top" = some none)
    (nB : PySem.W.findIn K (.ref C) "bottom" = some none)
    (gg : PySem.W.nsIn K mainGlobals "gcd" = some (some (.builtin "math.gcd")))
    (ha : PySem.W.findIn K (.ref C) "__class__" = some (some (.builtin "object.__class__")))
    (hn : PySem.W.specialIn K (.builtin "object.__class__") "__get__" = some (some (.builtin "getset_descriptor.__get__")))
    (ht : PySem.W.takesIn K (.builtin "object.__class__") = some true)
    (hm : PySem.W.mroIn K C (.type "object") = some true)
    (sf : PySem.W.selfFirst K C = true)
    (kRR : PySem.W.kitOne K (.ref C) (.ref C) = some true)
    (kIR : PySem.W.kitOne K (.type "int") (.ref C) = some false)
    (kII : PySem.W.kitOne K (.type "int") (.type "int") = some true)
    (kIB : PySem.W.kitOne K (.type "int") (.type "bool") = some false)
    (subI : PySem.W.subIn K (.type "int") (.ref C) = some false)
    (subC : PySem.W.subIn K (.ref C) (.type "int") = some false)
    (nfI : PySem.W.notFirst K C (.type "int") = true)
    (nfR : PySem.W.notFirst K C (.ref C) = true)
    (hne : PySem.W.findIn K (.ref C) "__ne__" = some (some (.builtin "object.__ne__")))
    (hobj : PySem.W.subIn K (.ref C) (.type "object") = some true)
    (iA : PySem.W.findIn K (.type "int") "__add__" = some foA)
    (iRA : PySem.W.findIn K (.type "int") "__radd__" = some foRA)
    (iS : PySem.W.findIn K (.type "int") "__sub__" = some foS)
    (iRS : PySem.W.findIn K (.type "int") "__rsub__" = some foRS)
    (iM : PySem.W.findIn K (.type "int") "__mul__" = some foM)
    (iRM : PySem.W.findIn K (.type "int") "__rmul__" = some foRM)
    (lT : K.lookup TT = some oT)
    (dT : oT.data = .seq [Value.int 1 tk].toArray nT0)
    (aZ : PySem.W.nsIn K mainGlobals "ZeroDivisor" = some (some (.ref Z)))
    (aS : PySem.W.nsIn K mainGlobals "SpotError" = some (some (.ref S)))
    (aN : PySem.W.nsIn K mainGlobals "BadNumber" = some (some (.ref N)))
    (aL : PySem.W.nsIn K mainGlobals "TooLarge" = some (some (.ref L)))
    (kZ : PySem.W.keepIn K (.ref Z) = true)
    (xZ : PySem.W.excIn K Z [.type "ValueError", .type "Exception", .type "BaseException", .type "object"] "ValueError.__new__" = true)
    (r1 : PySem.W.subIn K (.ref Z) (.type "BaseException") = some true)
    (r2 : PySem.W.typeIn K (.ref Z) = some (.type "type"))
    (zg : PySem.W.findIn K (.ref Z) "__getattribute__" = some (some (.builtin "BaseException.__getattribute__")))
    (zk : PySem.W.findIn K (.ref Z) "__getattr__" = some none)
    (zd : PySem.W.hasDictIn K Z = true)
    (za : PySem.W.findIn K (.ref Z) "__class__" = some (some (.builtin "object.__class__")))
    (zm : PySem.W.mroIn K Z (.type "object") = some true)
    (xm : PySem.W.exmOne K (.ref Z) (.ref S) = some true)
    (kzz : PySem.W.kitOne K (.ref Z) (.ref Z) = some true)
    (kzv : PySem.W.kitOne K (.ref Z) (.type "ValueError") = some true)
    (kzn : PySem.W.kitOne K (.ref Z) (.ref N) = some false)
    (kzl : PySem.W.kitOne K (.ref Z) (.ref L) = some false)
    (z_abs : PySem.W.nsIn K mainGlobals "abs" = some none)
    (z_int : PySem.W.nsIn K mainGlobals "int" = some none)
    (z_len : PySem.W.nsIn K mainGlobals "len" = some none)
    (z_list : PySem.W.nsIn K mainGlobals "list" = some none)
    (z_max : PySem.W.nsIn K mainGlobals "max" = some none)
    (z_range : PySem.W.nsIn K mainGlobals "range" = some none)
    (z_isinstance : PySem.W.nsIn K mainGlobals "isinstance" = some none)
    (z_bool : PySem.W.nsIn K mainGlobals "bool" = some none)
    (z_ValueError : PySem.W.nsIn K mainGlobals "ValueError" = some none)
    (a1 : PySem.W.nsIn K mainGlobals "compare" = some (some (.ref f1)))
    (l1 : K.lookup f1 = some ⟨oc1, od1, .func (PySem.W.fnOf "compare" "compare" (defArgs sCompare) (defBody sCompare) (defScope sCompare) .none kV1 dc1 pm1 an1 cd1 ct1), sl1⟩)
    (c1 : PySem.W.codeIn K cd1 "compare" = true)
    (k1 : PySem.W.keepIn K (.ref f1) = true)
    (a2 : PySem.W.nsIn K mainGlobals "_law_pool" = some (some (.ref f2)))
    (l2 : K.lookup f2 = some ⟨oc2, od2, .func (PySem.W.fnOf "_law_pool" "_law_pool" (defArgs sPool) (defBody sPool) (defScope sPool) .none kV2 dc2 pm2 an2 cd2 ct2), sl2⟩)
    (c2 : PySem.W.codeIn K cd2 "_law_pool" = true)
    (k2 : PySem.W.keepIn K (.ref f2) = true)
    (a3 : PySem.W.nsIn K mainGlobals "_law_take" = some (some (.ref f3)))
    (l3 : K.lookup f3 = some ⟨oc3, od3, .func (PySem.W.fnOf "_law_take" "_law_take" (defArgs sTake) (defBody sTake) (defScope sTake) .none kV3 dc3 pm3 an3 cd3 ct3), sl3⟩)
    (c3 : PySem.W.codeIn K cd3 "_law_take" = true)
    (k3 : PySem.W.keepIn K (.ref f3) = true)
    (a4 : PySem.W.nsIn K mainGlobals "_law_integer" = some (some (.ref f4)))
    (l4 : K.lookup f4 = some ⟨oc4, od4, .func (PySem.W.fnOf "_law_integer" "_law_integer" (defArgs sInteger) (defBody sInteger) (defScope sInteger) .none kV4 dc4 pm4 an4 cd4 ct4), sl4⟩)
    (c4 : PySem.W.codeIn K cd4 "_law_integer" = true)
    (k4 : PySem.W.keepIn K (.ref f4) = true)
    (a5 : PySem.W.nsIn K mainGlobals "_law_common" = some (some (.ref f5)))
    (l5 : K.lookup f5 = some ⟨oc5, od5, .func (PySem.W.fnOf "_law_common" "_law_common" (defArgs sCommon) (defBody sCommon) (defScope sCommon) .none kV5 dc5 pm5 an5 cd5 ct5), sl5⟩)
    (c5 : PySem.W.codeIn K cd5 "_law_common" = true)
    (k5 : PySem.W.keepIn K (.ref f5) = true)
    (a6 : PySem.W.nsIn K mainGlobals "_law_size" = some (some (.ref f6)))
    (l6 : K.lookup f6 = some ⟨oc6, od6, .func (PySem.W.fnOf "_law_size" "_law_size" (defArgs sSize) (defBody sSize) (defScope sSize) .none kV6 dc6 pm6 an6 cd6 ct6), sl6⟩)
    (c6 : PySem.W.codeIn K cd6 "_law_size" = true)
    (k6 : PySem.W.keepIn K (.ref f6) = true)
    (a7 : PySem.W.nsIn K mainGlobals "_law_fraction" = some (some (.ref f7)))
    (l7 : K.lookup f7 = some ⟨oc7, od7, .func (PySem.W.fnOf "_law_fraction" "_law_fraction" (defArgs sFraction) (defBody sFraction) (defScope sFraction) .none kV7 dc7 pm7 an7 cd7 ct7), sl7⟩)
    (c7 : PySem.W.codeIn K cd7 "_law_fraction" = true)
    (k7 : PySem.W.keepIn K (.ref f7) = true)
    (a8 : PySem.W.nsIn K mainGlobals "_law_second" = some (some (.ref f8)))
    (l8 : K.lookup f8 = some ⟨oc8, od8, .func (PySem.W.fnOf "_law_second" "_law_second" (defArgs sSecond) (defBody sSecond) (defScope sSecond) .none kV8 dc8 pm8 an8 cd8 ct8), sl8⟩)
    (c8 : PySem.W.codeIn K cd8 "_law_second" = true)
    (k8 : PySem.W.keepIn K (.ref f8) = true)
    (a9 : PySem.W.nsIn K mainGlobals "_law_beside" = some (some (.ref f9)))
    (l9 : K.lookup f9 = some ⟨oc9, od9, .func (PySem.W.fnOf "_law_beside" "_law_beside" (defArgs sBeside) (defBody sBeside) (defScope sBeside) .none kV9 dc9 pm9 an9 cd9 ct9), sl9⟩)
    (c9 : PySem.W.codeIn K cd9 "_law_beside" = true)
    (k9 : PySem.W.keepIn K (.ref f9) = true)
    (a10 : PySem.W.nsIn K mainGlobals "_law_right" = some (some (.ref f10)))
    (l10 : K.lookup f10 = some ⟨oc10, od10, .func (PySem.W.fnOf "_law_right" "_law_right" (defArgs sRight) (defBody sRight) (defScope sRight) .none kV10 dc10 pm10 an10 cd10 ct10), sl10⟩)
    (c10 : PySem.W.codeIn K cd10 "_law_right" = true)
    (k10 : PySem.W.keepIn K (.ref f10) = true)
    (a11 : PySem.W.nsIn K mainGlobals "_law_results" = some (some (.ref f11)))
    (l11 : K.lookup f11 = some ⟨oc11, od11, .func (PySem.W.fnOf "_law_results" "_law_results" (defArgs sResults) (defBody sResults) (defScope sResults) .none kV11 dc11 pm11 an11 cd11 ct11), sl11⟩)
    (c11 : PySem.W.codeIn K cd11 "_law_results" = true)
    (k11 : PySem.W.keepIn K (.ref f11) = true)
    (a12 : PySem.W.nsIn K mainGlobals "_law_side" = some (some (.ref f12)))
    (l12 : K.lookup f12 = some ⟨oc12, od12, .func (PySem.W.fnOf "_law_side" "_law_side" (defArgs sSide) (defBody sSide) (defScope sSide) .none kV12 dc12 pm12 an12 cd12 ct12), sl12⟩)
    (c12 : PySem.W.codeIn K cd12 "_law_side" = true)
    (k12 : PySem.W.keepIn K (.ref f12) = true)
    (a13 : PySem.W.nsIn K mainGlobals "_law_signs" = some (some (.ref f13)))
    (l13 : K.lookup f13 = some ⟨oc13, od13, .func (PySem.W.fnOf "_law_signs" "_law_signs" (defArgs sSigns) (defBody sSigns) (defScope sSigns) .none kV13 dc13 pm13 an13 cd13 ct13), sl13⟩)
    (c13 : PySem.W.codeIn K cd13 "_law_signs" = true)
    (k13 : PySem.W.keepIn K (.ref f13) = true)
    (a14 : PySem.W.nsIn K mainGlobals "_law_compared" = some (some (.ref f14)))
    (l14 : K.lookup f14 = some ⟨oc14, od14, .func (PySem.W.fnOf "_law_compared" "_law_compared" (defArgs sCompared) (defBody sCompared) (defScope sCompared) .none kV14 dc14 pm14 an14 cd14 ct14), sl14⟩)
    (c14 : PySem.W.codeIn K cd14 "_law_compared" = true)
    (k14 : PySem.W.keepIn K (.ref f14) = true)
    (a15 : PySem.W.nsIn K mainGlobals "_law_refused" = some (some (.ref f15)))
    (l15 : K.lookup f15 = some ⟨oc15, od15, .func (PySem.W.fnOf "_law_refused" "_law_refused" (defArgs sRefused) (defBody sRefused) (defScope sRefused) .none kV15 dc15 pm15 an15 cd15 ct15), sl15⟩)
    (c15 : PySem.W.codeIn K cd15 "_law_refused" = true)
    (k15 : PySem.W.keepIn K (.ref f15) = true)
    (a16 : PySem.W.nsIn K mainGlobals "law" = some (some (.ref f16)))
    (l16 : K.lookup f16 = some ⟨oc16, od16, .func (PySem.W.fnOf "law" "law" (defArgs sLaw) (defBody sLaw) (defScope sLaw) .none kV16 dc16 pm16 an16 cd16 ct16), sl16⟩)
    (c16 : PySem.W.codeIn K cd16 "law" = true)
    (k16 : PySem.W.keepIn K (.ref f16) = true)
    (a17 : PySem.W.findIn K (.ref C) "__init__" = some (some (.ref f17)))
    (i17 : PySem.W.isFn K (.ref f17) = true)
    (l17 : K.lookup f17 = some ⟨oc17, od17, .func (PySem.W.fnOf "__init__" "Ratio.__init__" (defArgs sInit) (defBody sInit) (defScope sInit) (.ref TT) kV17 dc17 pm17 an17 cd17 ct17), sl17⟩)
    (c17 : PySem.W.codeIn K cd17 "Ratio.__init__" = true)
    (k17 : PySem.W.keepIn K (.ref f17) = true)
    (a18 : PySem.W.findIn K (.ref C) "__add__" = some (some (.ref f18)))
    (i18 : PySem.W.isFn K (.ref f18) = true)
    (l18 : K.lookup f18 = some ⟨oc18, od18, .func (PySem.W.fnOf "__add__" "Ratio.__add__" (defArgs sAdd) (defBody sAdd) (defScope sAdd) .none kV18 dc18 pm18 an18 cd18 ct18), sl18⟩)
    (c18 : PySem.W.codeIn K cd18 "Ratio.__add__" = true)
    (k18 : PySem.W.keepIn K (.ref f18) = true)
    (a19 : PySem.W.findIn K (.ref C) "__radd__" = some (some (.ref f19)))
    (i19 : PySem.W.isFn K (.ref f19) = true)
    (l19 : K.lookup f19 = some ⟨oc19, od19, .func (PySem.W.fnOf "__radd__" "Ratio.__radd__" (defArgs sRadd) (defBody sRadd) (defScope sRadd) .none kV19 dc19 pm19 an19 cd19 ct19), sl19⟩)
    (c19 : PySem.W.codeIn K cd19 "Ratio.__radd__" = true)
    (k19 : PySem.W.keepIn K (.ref f19) = true)
    (a20 : PySem.W.findIn K (.ref C) "__sub__" = some (some (.ref f20)))
    (i20 : PySem.W.isFn K (.ref f20) = true)
    (l20 : K.lookup f20 = some ⟨oc20, od20, .func (PySem.W.fnOf "__sub__" "Ratio.__sub__" (defArgs sSub) (defBody sSub) (defScope sSub) .none kV20 dc20 pm20 an20 cd20 ct20), sl20⟩)
    (c20 : PySem.W.codeIn K cd20 "Ratio.__sub__" = true)
    (k20 : PySem.W.keepIn K (.ref f20) = true)
    (a21 : PySem.W.findIn K (.ref C) "__rsub__" = some (some (.ref f21)))
    (i21 : PySem.W.isFn K (.ref f21) = true)
    (l21 : K.lookup f21 = some ⟨oc21, od21, .func (PySem.W.fnOf "__rsub__" "Ratio.__rsub__" (defArgs sRsub) (defBody sRsub) (defScope sRsub) .none kV21 dc21 pm21 an21 cd21 ct21), sl21⟩)
    (c21 : PySem.W.codeIn K cd21 "Ratio.__rsub__" = true)
    (k21 : PySem.W.keepIn K (.ref f21) = true)
    (a22 : PySem.W.findIn K (.ref C) "__mul__" = some (some (.ref f22)))
    (i22 : PySem.W.isFn K (.ref f22) = true)
    (l22 : K.lookup f22 = some ⟨oc22, od22, .func (PySem.W.fnOf "__mul__" "Ratio.__mul__" (defArgs sMul) (defBody sMul) (defScope sMul) .none kV22 dc22 pm22 an22 cd22 ct22), sl22⟩)
    (c22 : PySem.W.codeIn K cd22 "Ratio.__mul__" = true)
    (k22 : PySem.W.keepIn K (.ref f22) = true)
    (a23 : PySem.W.findIn K (.ref C) "__rmul__" = some (some (.ref f23)))
    (i23 : PySem.W.isFn K (.ref f23) = true)
    (l23 : K.lookup f23 = some ⟨oc23, od23, .func (PySem.W.fnOf "__rmul__" "Ratio.__rmul__" (defArgs sRmul) (defBody sRmul) (defScope sRmul) .none kV23 dc23 pm23 an23 cd23 ct23), sl23⟩)
    (c23 : PySem.W.codeIn K cd23 "Ratio.__rmul__" = true)
    (k23 : PySem.W.keepIn K (.ref f23) = true)
    (a24 : PySem.W.findIn K (.ref C) "__neg__" = some (some (.ref f24)))
    (i24 : PySem.W.isFn K (.ref f24) = true)
    (l24 : K.lookup f24 = some ⟨oc24, od24, .func (PySem.W.fnOf "__neg__" "Ratio.__neg__" (defArgs sNeg) (defBody sNeg) (defScope sNeg) .none kV24 dc24 pm24 an24 cd24 ct24), sl24⟩)
    (c24 : PySem.W.codeIn K cd24 "Ratio.__neg__" = true)
    (k24 : PySem.W.keepIn K (.ref f24) = true)
    (a25 : PySem.W.findIn K (.ref C) "__abs__" = some (some (.ref f25)))
    (i25 : PySem.W.isFn K (.ref f25) = true)
    (l25 : K.lookup f25 = some ⟨oc25, od25, .func (PySem.W.fnOf "__abs__" "Ratio.__abs__" (defArgs sAbs) (defBody sAbs) (defScope sAbs) .none kV25 dc25 pm25 an25 cd25 ct25), sl25⟩)
    (c25 : PySem.W.codeIn K cd25 "Ratio.__abs__" = true)
    (k25 : PySem.W.keepIn K (.ref f25) = true)
    (a26 : PySem.W.findIn K (.ref C) "__eq__" = some (some (.ref f26)))
    (i26 : PySem.W.isFn K (.ref f26) = true)
    (l26 : K.lookup f26 = some ⟨oc26, od26, .func (PySem.W.fnOf "__eq__" "Ratio.__eq__" (defArgs sEq) (defBody sEq) (defScope sEq) .none kV26 dc26 pm26 an26 cd26 ct26), sl26⟩)
    (c26 : PySem.W.codeIn K cd26 "Ratio.__eq__" = true)
    (k26 : PySem.W.keepIn K (.ref f26) = true)
    (a27 : PySem.W.findIn K (.ref C) "__bool__" = some (some (.ref f27)))
    (i27 : PySem.W.isFn K (.ref f27) = true)
    (l27 : K.lookup f27 = some ⟨oc27, od27, .func (PySem.W.fnOf "__bool__" "Ratio.__bool__" (defArgs sBool) (defBody sBool) (defScope sBool) .none kV27 dc27 pm27 an27 cd27 ct27), sl27⟩)
    (c27 : PySem.W.codeIn K cd27 "Ratio.__bool__" = true)
    (k27 : PySem.W.keepIn K (.ref f27) = true)
    (a28 : PySem.W.findIn K (.ref C) "over" = some (some (.ref f28)))
    (i28 : PySem.W.isFn K (.ref f28) = true)
    (l28 : K.lookup f28 = some ⟨oc28, od28, .func (PySem.W.fnOf "over" "Ratio.over" (defArgs sOver) (defBody sOver) (defScope sOver) .none kV28 dc28 pm28 an28 cd28 ct28), sl28⟩)
    (c28 : PySem.W.codeIn K cd28 "Ratio.over" = true)
    (k28 : PySem.W.keepIn K (.ref f28) = true)
    (a29 : PySem.W.findIn K (.ref C) "sign" = some (some (.ref f29)))
    (i29 : PySem.W.isFn K (.ref f29) = true)
    (l29 : K.lookup f29 = some ⟨oc29, od29, .func (PySem.W.fnOf "sign" "Ratio.sign" (defArgs sSign) (defBody sSign) (defScope sSign) .none kV29 dc29 pm29 an29 cd29 ct29), sl29⟩)
    (c29 : PySem.W.codeIn K cd29 "Ratio.sign" = true)
    (k29 : PySem.W.keepIn K (.ref f29) = true)
    : ∃ fd : FuncData, (∀ (s : Shared) (v : Value), BindsTo s fd ⟨[v], []⟩ [("script", v)]) ∧ ∀ base : Heap, K.In base → base.Ns mainGlobals mg → FnOk l.prog w K mg base CX0 6 fa fd ["script"] (spF K preP isTrue1) := by
  have e := hfa.symm.trans (PySem.W.mg_of X G a16)
  cases e
  have F1 := fun_mk (st := sCompare) l1 c1 k1
  have b1 := F1.binds (ps := ["first", "second"]) fun _ _ _ _ _ _ us hl => match us, hl with | [_, _], _ => rfl
  have D_compare : Df K mg "compare" sCompare ["first", "second"] _ _ := ⟨F1, PySem.W.mg_of X G a1, b1⟩
  have F2 := fun_mk (st := sPool) l2 c2 k2
  have b2 := F2.binds (ps := ["script"]) fun _ _ _ _ _ _ us hl => match us, hl with | [_], _ => rfl
  have D__law_pool : Df K mg "_law_pool" sPool ["script"] _ _ := ⟨F2, PySem.W.mg_of X G a2, b2⟩
  have F3 := fun_mk (st := sTake) l3 c3 k3
  have b3 := F3.binds (ps := ["pool", "most"]) fun _ _ _ _ _ _ us hl => match us, hl with | [_, _], _ => rfl
  have D__law_take : Df K mg "_law_take" sTake ["pool", "most"] _ _ := ⟨F3, PySem.W.mg_of X G a3, b3⟩
  have F4 := fun_mk (st := sInteger) l4 c4 k4
  have b4 := F4.binds (ps := ["thing"]) fun _ _ _ _ _ _ us hl => match us, hl with | [_], _ => rfl
  have D__law_integer : Df K mg "_law_integer" sInteger ["thing"] _ _ := ⟨F4, PySem.W.mg_of X G a4, b4⟩
  have F5 := fun_mk (st := sCommon) l5 c5 k5
  have b5 := F5.binds (ps := ["one", "two"]) fun _ _ _ _ _ _ us hl => match us, hl with | [_, _], _ => rfl
  have D__law_common : Df K mg "_law_common" sCommon ["one", "two"] _ _ := ⟨F5, PySem.W.mg_of X G a5, b5⟩
  have F6 := fun_mk (st := sSize) l6 c6 k6
  have b6 := F6.binds (ps := ["pool"]) fun _ _ _ _ _ _ us hl => match us, hl with | [_], _ => rfl
  have D__law_size : Df K mg "_law_size" sSize ["pool"] _ _ := ⟨F6, PySem.W.mg_of X G a6, b6⟩
  have F7 := fun_mk (st := sFraction) l7 c7 k7
  have b7 := F7.binds (ps := ["pool"]) fun _ _ _ _ _ _ us hl => match us, hl with | [_], _ => rfl
  have D__law_fraction : Df K mg "_law_fraction" sFraction ["pool"] _ _ := ⟨F7, PySem.W.mg_of X G a7, b7⟩
  have F8 := fun_mk (st := sSecond) l8 c8 k8
  have b8 := F8.binds (ps := ["pool", "one"]) fun _ _ _ _ _ _ us hl => match us, hl with | [_, _], _ => rfl
  have D__law_second : Df K mg "_law_second" sSecond ["pool", "one"] _ _ := ⟨F8, PySem.W.mg_of X G a8, b8⟩
  have F9 := fun_mk (st := sBeside) l9 c9 k9
  have b9 := F9.binds (ps := ["pool", "one"]) fun _ _ _ _ _ _ us hl => match us, hl with | [_, _], _ => rfl
  have D__law_beside : Df K mg "_law_beside" sBeside ["pool", "one"] _ _ := ⟨F9, PySem.W.mg_of X G a9, b9⟩
  have F10 := fun_mk (st := sRight) l10 c10 k10
  have b10 := F10.binds (ps := ["told", "due"]) fun _ _ _ _ _ _ us hl => match us, hl with | [_, _], _ => rfl
  have D__law_right : Df K mg "_law_right" sRight ["told", "due"] _ _ := ⟨F10, PySem.W.mg_of X G a10, b10⟩
  have F11 := fun_mk (st := sResults) l11 c11 k11
  have b11 := F11.binds (ps := ["first", "second", "number", "one", "two"]) fun _ _ _ _ _ _ us hl => match us, hl with | [_, _, _, _, _], _ => rfl
  have D__law_results : Df K mg "_law_results" sResults ["first", "second", "number", "one", "two"] _ _ := ⟨F11, PySem.W.mg_of X G a11, b11⟩
  have F12 := fun_mk (st := sSide) l12 c12 k12
  have b12 := F12.binds (ps := ["above", "below"]) fun _ _ _ _ _ _ us hl => match us, hl with | [_, _], _ => rfl
  have D__law_side : Df K mg "_law_side" sSide ["above", "below"] _ _ := ⟨F12, PySem.W.mg_of X G a12, b12⟩
  have F13 := fun_mk (st := sSigns) l13 c13 k13
  have b13 := F13.binds (ps := ["first", "second", "one", "two"]) fun _ _ _ _ _ _ us hl => match us, hl with | [_, _, _, _], _ => rfl
  have D__law_signs : Df K mg "_law_signs" sSigns ["first", "second", "one", "two"] _ _ := ⟨F13, PySem.W.mg_of X G a13, b13⟩
  have F14 := fun_mk (st := sCompared) l14 c14 k14
  have b14 := F14.binds (ps := ["first", "second", "number", "one", "two"]) fun _ _ _ _ _ _ us hl => match us, hl with | [_, _, _, _, _], _ => rfl
  have D__law_compared : Df K mg "_law_compared" sCompared ["first", "second", "number", "one", "two"] _ _ := ⟨F14, PySem.W.mg_of X G a14, b14⟩
  have F15 := fun_mk (st := sRefused) l15 c15 k15
  have b15 := F15.binds (ps := ["first", "above", "kind"]) fun _ _ _ _ _ _ us hl => match us, hl with | [_, _, _], _ => rfl
  have D__law_refused : Df K mg "_law_refused" sRefused ["first", "above", "kind"] _ _ := ⟨F15, PySem.W.mg_of X G a15, b15⟩
  have F16 := fun_mk (st := sLaw) l16 c16 k16
  have b16 := F16.binds (ps := ["script"]) fun _ _ _ _ _ _ us hl => match us, hl with | [_], _ => rfl
  have D_law : Df K mg "law" sLaw ["script"] _ _ := ⟨F16, PySem.W.mg_of X G a16, b16⟩
  have F18 := fun_mk (st := sAdd) l18 c18 k18
  have b18 := F18.binds (ps := ["self", "other"]) fun _ _ _ _ _ _ us hl => match us, hl with | [_, _], _ => rfl
  have D___add__ : Dm K C "__add__" "Ratio.__add__" sAdd ["self", "other"] f18 _ := ⟨F18, a18, i18, b18⟩
  have F19 := fun_mk (st := sRadd) l19 c19 k19
  have b19 := F19.binds (ps := ["self", "other"]) fun _ _ _ _ _ _ us hl => match us, hl with | [_, _], _ => rfl
  have D___radd__ : Dm K C "__radd__" "Ratio.__radd__" sRadd ["self", "other"] f19 _ := ⟨F19, a19, i19, b19⟩
  have F20 := fun_mk (st := sSub) l20 c20 k20
  have b20 := F20.binds (ps := ["self", "other"]) fun _ _ _ _ _ _ us hl => match us, hl with | [_, _], _ => rfl
  have D___sub__ : Dm K C "__sub__" "Ratio.__sub__" sSub ["self", "other"] f20 _ := ⟨F20, a20, i20, b20⟩
  have F21 := fun_mk (st := sRsub) l21 c21 k21
  have b21 := F21.binds (ps := ["self", "other"]) fun _ _ _ _ _ _ us hl => match us, hl with | [_, _], _ => rfl
  have D___rsub__ : Dm K C "__rsub__" "Ratio.__rsub__" sRsub ["self", "other"] f21 _ := ⟨F21, a21, i21, b21⟩
  have F22 := fun_mk (st := sMul) l22 c22 k22
  have b22 := F22.binds (ps := ["self", "other"]) fun _ _ _ _ _ _ us hl => match us, hl with | [_, _], _ => rfl
  have D___mul__ : Dm K C "__mul__" "Ratio.__mul__" sMul ["self", "other"] f22 _ := ⟨F22, a22, i22, b22⟩
  have F23 := fun_mk (st := sRmul) l23 c23 k23
  have b23 := F23.binds (ps := ["self", "other"]) fun _ _ _ _ _ _ us hl => match us, hl with | [_, _], _ => rfl
  have D___rmul__ : Dm K C "__rmul__" "Ratio.__rmul__" sRmul ["self", "other"] f23 _ := ⟨F23, a23, i23, b23⟩
  have F24 := fun_mk (st := sNeg) l24 c24 k24
  have b24 := F24.binds (ps := ["self"]) fun _ _ _ _ _ _ us hl => match us, hl with | [_], _ => rfl
  have D___neg__ : Dm K C "__neg__" "Ratio.__neg__" sNeg ["self"] f24 _ := ⟨F24, a24, i24, b24⟩
  have F25 := fun_mk (st := sAbs) l25 c25 k25
  have b25 := F25.binds (ps := ["self"]) fun _ _ _ _ _ _ us hl => match us, hl with | [_], _ => rfl
  have D___abs__ : Dm K C "__abs__" "Ratio.__abs__" sAbs ["self"] f25 _ := ⟨F25, a25, i25, b25⟩
  have F26 := fun_mk (st := sEq) l26 c26 k26
  have b26 := F26.binds (ps := ["self", "other"]) fun _ _ _ _ _ _ us hl => match us, hl with | [_, _], _ => rfl
  have D___eq__ : Dm K C "__eq__" "Ratio.__eq__" sEq ["self", "other"] f26 _ := ⟨F26, a26, i26, b26⟩
  have F27 := fun_mk (st := sBool) l27 c27 k27
  have b27 := F27.binds (ps := ["self"]) fun _ _ _ _ _ _ us hl => match us, hl with | [_], _ => rfl
  have D___bool__ : Dm K C "__bool__" "Ratio.__bool__" sBool ["self"] f27 _ := ⟨F27, a27, i27, b27⟩
  have F28 := fun_mk (st := sOver) l28 c28 k28
  have b28 := F28.binds (ps := ["self", "other"]) fun _ _ _ _ _ _ us hl => match us, hl with | [_, _], _ => rfl
  have D_over : Dm K C "over" "Ratio.over" sOver ["self", "other"] f28 _ := ⟨F28, a28, i28, b28⟩
  have F29 := fun_mk (st := sSign) l29 c29 k29
  have b29 := F29.binds (ps := ["self"]) fun _ _ _ _ _ _ us hl => match us, hl with | [_], _ => rfl
  have D_sign : Dm K C "sign" "Ratio.sign" sSign ["self"] f29 _ := ⟨F29, a29, i29, b29⟩
  have FI0 : FunD K "__init__" "Ratio.__init__" (defArgs sInit) (defBody sInit) (defScope sInit) [V.int 1] [] f17 _ := ⟨⟨_, _, _, _, _, _, _, _, _, _, rfl, l17, c17, .inr ⟨by simp, TT, _, [Value.int 1 tk], _, rfl, lT, dT, .cons ⟨tk, rfl⟩ .nil⟩, .inl rfl⟩, k17⟩
  have FI1 : FI K sInit f17 _ := .inr ⟨_, _, FI0⟩
  obtain ⟨us2, v2, bI2⟩ := FI0.binds1 (ps := ["self", "top", "bottom"]) 3 1 (by simp) rfl fun T kV doc pm an cdv ct us its hl hi => match us, its, hl, hi with | [_, _, _], [_], _, _ => ⟨_, rfl, rfl⟩
  obtain ⟨us1, v1, bI1⟩ := FI0.binds1 (ps := ["self", "top", "bottom"]) 2 0 (by simp) rfl fun T kV doc pm an cdv ct us its hl hi => match us, its, hl, hi with | [_, _], [_], _, _ => ⟨_, rfl, rfl⟩
  have B : Bl mg := ⟨PySem.W.mg_none_of X G z_abs, PySem.W.mg_none_of X G z_int, PySem.W.mg_none_of X G z_len, PySem.W.mg_none_of X G z_list, PySem.W.mg_none_of X G z_max, PySem.W.mg_none_of X G z_range, PySem.W.mg_none_of X G z_isinstance, PySem.W.mg_none_of X G z_bool⟩
  have isc : IsC K C := ⟨⟨pg, hd, po, sa⟩, ha, hn, ht, hm⟩
  have tR : RatT K mg C := ⟨PySem.W.mg_of X G aC, ⟨pg, hd, po, sa⟩, nT, nB, PySem.W.mg_of X G gg, isc, sf, kRR, kIR, kII, kIB, subI, subC, nfI, nfR, hne, hobj, ⟨_, iA⟩, ⟨_, iRA⟩, ⟨_, iS⟩, ⟨_, iRS⟩, ⟨_, iM⟩, ⟨_, iRM⟩⟩
  have tZ : ZdT K mg Z := ⟨PySem.W.mg_of X G aZ, kZ, xZ, r1, r2⟩
  have tX : ExT K mg Z S N L := ⟨tZ, PySem.W.mg_of X G aS, PySem.W.mg_of X G aN, PySem.W.mg_of X G aL, PySem.W.mg_none_of X G z_ValueError, ⟨zg, zk, r1, zd, za, hn, ht, zm⟩, xm, kzz, kzv, kzn, kzl⟩
  have MK : Mk K C f17 := ⟨mk, a17, i17, kc⟩
  refine ⟨PySem.W.fnOf "law" "law" (defArgs sLaw) (defBody sLaw) (defScope sLaw) .none kV16 dc16 pm16 an16 cd16 ct16, fun s v => .of_eq rfl, fun base _ _ => ?_⟩
  have MI : IOk l.prog w K mg base CX0 C 1 [] (spI K C ["top", "bottom"] preI postI) := ⟨_, _, _, _, _, MK, ok_init FI1 B tR, bI2, v2, fun _ => Reps.nil⟩
  have MI1 : IOk l.prog w K mg base CX0 C 1 [.int 1] (spI K C ["top", "bottom"] preI postI) := ⟨_, _, _, _, _, MK, ok_init FI1 B tR, bI1, v1, fun _ => Reps.cons (by simp only [Rep]) Reps.nil⟩
  have MIX : IOk l.prog w K mg base (L2.CX l.prog w) C 1 [] (spIX K C ["top", "bottom"] preIX postIX (excI Z)) := ⟨_, _, _, _, _, MK, ok_initX FI1 B tR tZ, bI2, v2, fun _ => Reps.nil⟩
  have RB : RatB l.prog w K mg base C := ⟨B, tR, MI⟩
  have MAdd := D___add__.ok (ok_add (P := l.prog) (w := w) (base := base) D___add__ RB)
  have MSub := D___sub__.ok (ok_sub (P := l.prog) (w := w) (base := base) D___sub__ RB)
  have MMul := D___mul__.ok (ok_mul (P := l.prog) (w := w) (base := base) D___mul__ RB)
  have MRadd := D___radd__.ok (ok_radd D___radd__ RB MAdd)
  have MNeg := D___neg__.ok (ok_neg (P := l.prog) (w := w) (base := base) D___neg__ RB)
  have MRsub := D___rsub__.ok (ok_rsub D___rsub__ RB MAdd MNeg MRadd)
  have MRmul := D___rmul__.ok (ok_rmul D___rmul__ RB MMul)
  have MAbs := D___abs__.ok (ok_abs (P := l.prog) (w := w) (base := base) D___abs__ RB)
  have MOver := D_over.ok (ok_over (P := l.prog) (w := w) (base := base) D_over RB)
  have MSign := D_sign.ok (ok_sign (P := l.prog) (w := w) (base := base) D_sign B tR)
  have MEq := D___eq__.ok (ok_eq (P := l.prog) (w := w) (base := base) D___eq__ B tR)
  have MBool := D___bool__.ok (ok_bool (P := l.prog) (w := w) (base := base) D___bool__ B tR)
  have RM : RatM l.prog w K mg base C := ⟨B, tR, MI, MI1, MAdd, MSub, MMul, MRadd, MRsub, MRmul, MNeg, MAbs, MOver, MSign, MEq, MBool⟩
  have RX : RatX l.prog w K mg base C Z := ⟨MIX, D_over.ok (ok_overX D_over RB MIX)⟩
  have GCompare := D_compare.ok (ok_compare D_compare RB MSub MSign)
  have GTake := D__law_take.ok (ok_take (P := l.prog) (w := w) (base := base) D__law_take.fn B)
  have GInt := D__law_integer.ok (ok_integer (P := l.prog) (w := w) (base := base) D__law_integer B tR)
  have GCom := D__law_common.ok (ok_common (P := l.prog) (w := w) (base := base) D__law_common B)
  have GSize := D__law_size.ok (ok_size D__law_size B GTake)
  have GFrac := D__law_fraction.ok (ok_fraction D__law_fraction B GTake GSize)
  have GRight := D__law_right.ok (ok_right D__law_right B tR GInt GCom)
  have GSide := D__law_side.ok (ok_side (P := l.prog) (w := w) (mg := mg) (base := base) D__law_side)
  have LH : LawH l.prog w K mg base C := ⟨D__law_pool.ok (ok_pool D__law_pool B), GFrac, D__law_second.ok (ok_second D__law_second B GTake GFrac), D__law_beside.ok (ok_beside D__law_beside B GTake GSize), GRight, D__law_results.ok (ok_results D__law_results RM GRight), D__law_compared.ok (ok_compared D__law_compared RM), D__law_signs.ok (ok_signs D__law_signs RM GSide GInt GCompare), D__law_refused.ok (ok_refused D__law_refused RM RX tX)⟩
  exact ok_law D_law RM LH
end Toy
namespace Toy
open PySem PySem.Spec PyProof.Rows L2 DL
theorem walk {l : PySem.W.OpenLaw} {q : Program} {loose : List Str} {XP : (Str → Option Value) → Heap → Prop} {YP : World → Heap → Prop} {d : DefRec} {K : Params → PySem.W.Frag} (hn : l.most = some 63) (hdf : d.params.defaults = [])
    (hY : ∀ (w : World) (h : Heap), YP w h → (K w.params).In h)
    (F : ∀ (w : World) (mg : Str → Option Value) (fa : Addr) (h : Heap), (K w.params).In h → h.Ns mainGlobals mg → mg d.name = some (.ref fa) →
      ∃ fd : FuncData, (∀ (s : Shared) (u : Value), BindsTo s fd ⟨[u], []⟩ [("script", u)]) ∧ ∀ base : Heap, (K w.params).In base → base.Ns mainGlobals mg → FnOk l.prog w (K w.params) mg base CX0 6 fa fd ["script"] (spF (K w.params) preP isTrue1)) :
    PySem.W.WalkO q loose XP YP l.row.toRowW d [] (fun f vs => PySem.call f vs) :=
  L2.walk_of (n := 63) (k := 6) (x := "script") (CX := fun _ => CX0) (sp := fun w => spF (K w.params) preP isTrue1) hn (by decide) hdf ⟨rfl, by decide, by decide⟩ hY F (fun w H a ns hl _ hS => ⟨[], [.rol (ns.map D.int)], fun b hb => absurd hb (by simp), Reps.cons (by simp only [Rep]; exact ⟨a, _, rfl, by rw [show msk [] H = H from funext fun b => rfl]; exact hS, Reps.ofInts⟩) Reps.nil, ⟨ns, rfl, hl⟩, fun v H' d _ rd pd => by
    cases pd
    simpa only [Rep] using rd⟩) fun _ _ _ _ _ z => z
end Toy
open PySem PySem.W PyProof.Rows
set_option maxRecDepth 100000 in
set_option maxHeartbeats 0 in
theorem PySem.Challenge.cw_heightsfitted_k00_ratios_are_exact_holds : PySem.Challenge.rw_heightsfitted_k00_ratios_are_exact.Holds := by
  w_on; o_law; k_head; (case hw => w_witness2)
  k_fill
  refine Toy.walk (l := PySem.Challenge.rw_heightsfitted_k00_ratios_are_exact) rfl rfl (fun w h Y => PySem.W.kIn_of Y) ?F
  case F =>
    intro w mg fa h KX G hmg
    refine' Toy.all_mk KX G hmg ?aC ?pg ?hd ?po ?sa ?mk ?kc ?nT ?nB ?gg ?ha ?hn ?ht ?hm ?sf ?kRR ?kIR ?kII ?kIB ?subI ?subC ?nfI ?nfR ?hne ?hobj ?iA ?iRA ?iS ?iRS ?iM ?iRM ?lT ?dT ?aZ ?aS ?aN ?aL ?kZ ?xZ ?r1 ?r2 ?zg ?zk ?zd ?za ?zm ?xm ?kzz ?kzv ?kzn ?kzl ?z_abs ?z_int ?z_len ?z_list ?z_max ?z_range ?z_isinstance ?z_bool ?z_ValueError ?a1 ?l1 ?c1 ?k1 ?a2 ?l2 ?c2 ?k2 ?a3 ?l3 ?c3 ?k3 ?a4 ?l4 ?c4 ?k4 ?a5 ?l5 ?c5 ?k5 ?a6 ?l6 ?c6 ?k6 ?a7 ?l7 ?c7 ?k7 ?a8 ?l8 ?c8 ?k8 ?a9 ?l9 ?c9 ?k9 ?a10 ?l10 ?c10 ?k10 ?a11 ?l11 ?c11 ?k11 ?a12 ?l12 ?c12 ?k12 ?a13 ?l13 ?c13 ?k13 ?a14 ?l14 ?c14 ?k14 ?a15 ?l15 ?c15 ?k15 ?a16 ?l16 ?c16 ?k16 ?a17 ?i17 ?l17 ?c17 ?k17 ?a18 ?i18 ?l18 ?c18 ?k18 ?a19 ?i19 ?l19 ?c19 ?k19 ?a20 ?i20 ?l20 ?c20 ?k20 ?a21 ?i21 ?l21 ?c21 ?k21 ?a22 ?i22 ?l22 ?c22 ?k22 ?a23 ?i23 ?l23 ?c23 ?k23 ?a24 ?i24 ?l24 ?c24 ?k24 ?a25 ?i25 ?l25 ?c25 ?k25 ?a26 ?i26 ?l26 ?c26 ?k26 ?a27 ?i27 ?l27 ?c27 ?k27 ?a28 ?i28 ?l28 ?c28 ?k28 ?a29 ?i29 ?l29 ?c29 ?k29
    (case aC => first | k_is | k_exc | rfl | decide +kernel)
    (case pg => first | k_is | k_exc | rfl | decide +kernel)
    (case hd => first | k_is | k_exc | rfl | decide +kernel)
    (case po => first | k_is | k_exc | rfl | decide +kernel)
    (case sa => first | k_is | k_exc | rfl | decide +kernel)
    (case mk => first | k_is | k_exc | rfl | decide +kernel)
    (case kc => first | k_is | k_exc | rfl | decide +kernel)
    (case nT => first | k_is | k_exc | rfl | decide +kernel)
    (case nB => first | k_is | k_exc | rfl | decide +kernel)
    (case gg => first | k_is | k_exc | rfl | decide +kernel)
    (case ha => first | k_is | k_exc | rfl | decide +kernel)
    (case hn => first | k_is | k_exc | rfl | decide +kernel)
    (case ht => first | k_is | k_exc | rfl | decide +kernel)
    (case hm => first | k_is | k_exc | rfl | decide +kernel)
    (case sf => first | k_is | k_exc | rfl | decide +kernel)
    (case kRR => first | k_is | k_exc | rfl | decide +kernel)
    (case kIR => first | k_is | k_exc | rfl | decide +kernel)
    (case kII => first | k_is | k_exc | rfl | decide +kernel)
    (case kIB => first | k_is | k_exc | rfl | decide +kernel)
    (case subI => first | k_is | k_exc | rfl | decide +kernel)
    (case subC => first | k_is | k_exc | rfl | decide +kernel)
    (case nfI => first | k_is | k_exc | rfl | decide +kernel)
    (case nfR => first | k_is | k_exc | rfl | decide +kernel)
    (case hne => first | k_is | k_exc | rfl | decide +kernel)
    (case hobj => first | k_is | k_exc | rfl | decide +kernel)
    (case iA => first | k_is | k_exc | rfl | decide +kernel)
    (case iRA => first | k_is | k_exc | rfl | decide +kernel)
    (case iS => first | k_is | k_exc | rfl | decide +kernel)
    (case iRS => first | k_is | k_exc | rfl | decide +kernel)
    (case iM => first | k_is | k_exc | rfl | decide +kernel)
    (case iRM => first | k_is | k_exc | rfl | decide +kernel)
    (case aZ => first | k_is | k_exc | rfl | decide +kernel)
    (case aS => first | k_is | k_exc | rfl | decide +kernel)
    (case aN => first | k_is | k_exc | rfl | decide +kernel)
    (case aL => first | k_is | k_exc | rfl | decide +kernel)
    (case kZ => first | k_is | k_exc | rfl | decide +kernel)
    (case r1 => first | k_is | k_exc | rfl | decide +kernel)
    (case r2 => first | k_is | k_exc | rfl | decide +kernel)
    (case zg => first | k_is | k_exc | rfl | decide +kernel)
    (case zk => first | k_is | k_exc | rfl | decide +kernel)
    (case zd => first | k_is | k_exc | rfl | decide +kernel)
    (case za => first | k_is | k_exc | rfl | decide +kernel)
    (case zm => first | k_is | k_exc | rfl | decide +kernel)
    (case xm => first | k_is | k_exc | rfl | decide +kernel)
    (case kzz => first | k_is | k_exc | rfl | decide +kernel)
    (case kzv => first | k_is | k_exc | rfl | decide +kernel)
    (case kzn => first | k_is | k_exc | rfl | decide +kernel)
    (case kzl => first | k_is | k_exc | rfl | decide +kernel)
    (case z_abs => first | k_is | k_exc | rfl | decide +kernel)
    (case z_int => first | k_is | k_exc | rfl | decide +kernel)
    (case z_len => first | k_is | k_exc | rfl | decide +kernel)
    (case z_list => first | k_is | k_exc | rfl | decide +kernel)
    (case z_max => first | k_is | k_exc | rfl | decide +kernel)
    (case z_range => first | k_is | k_exc | rfl | decide +kernel)
    (case z_isinstance => first | k_is | k_exc | rfl | decide +kernel)
    (case z_bool => first | k_is | k_exc | rfl | decide +kernel)
    (case z_ValueError => first | k_is | k_exc | rfl | decide +kernel)
    (case a1 => first | k_is | k_exc | rfl | decide +kernel)
    (case l1 => first | k_is | k_exc | rfl | decide +kernel)
    (case c1 => first | k_is | k_exc | rfl | decide +kernel)
    (case k1 => first | k_is | k_exc | rfl | decide +kernel)
    (case a2 => first | k_is | k_exc | rfl | decide +kernel)
    (case l2 => first | k_is | k_exc | rfl | decide +kernel)
    (case c2 => first | k_is | k_exc | rfl | decide +kernel)
    (case k2 => first | k_is | k_exc | rfl | decide +kernel)
    (case a3 => first | k_is | k_exc | rfl | decide +kernel)
    (case l3 => first | k_is | k_exc | rfl | decide +kernel)
    (case c3 => first | k_is | k_exc | rfl | decide +kernel)
    (case k3 => first | k_is | k_exc | rfl | decide +kernel)
    (case a4 => first | k_is | k_exc | rfl | decide +kernel)
    (case l4 => first | k_is | k_exc | rfl | decide +kernel)
    (case c4 => first | k_is | k_exc | rfl | decide +kernel)
    (case k4 => first | k_is | k_exc | rfl | decide +kernel)
    (case a5 => first | k_is | k_exc | rfl | decide +kernel)
    (case l5 => first | k_is | k_exc | rfl | decide +kernel)
    (case c5 => first | k_is | k_exc | rfl | decide +kernel)
    (case k5 => first | k_is | k_exc | rfl | decide +kernel)
    (case a6 => first | k_is | k_exc | rfl | decide +kernel)
    (case l6 => first | k_is | k_exc | rfl | decide +kernel)
    (case c6 => first | k_is | k_exc | rfl | decide +kernel)
    (case k6 => first | k_is | k_exc | rfl | decide +kernel)
    (case a7 => first | k_is | k_exc | rfl | decide +kernel)
    (case l7 => first | k_is | k_exc | rfl | decide +kernel)
    (case c7 => first | k_is | k_exc | rfl | decide +kernel)
    (case k7 => first | k_is | k_exc | rfl | decide +kernel)
    (case a8 => first | k_is | k_exc | rfl | decide +kernel)
    (case l8 => first | k_is | k_exc | rfl | decide +kernel)
    (case c8 => first | k_is | k_exc | rfl | decide +kernel)
    (case k8 => first | k_is | k_exc | rfl | decide +kernel)
    (case a9 => first | k_is | k_exc | rfl | decide +kernel)
    (case l9 => first | k_is | k_exc | rfl | decide +kernel)
    (case c9 => first | k_is | k_exc | rfl | decide +kernel)
    (case k9 => first | k_is | k_exc | rfl | decide +kernel)
    (case a10 => first | k_is | k_exc | rfl | decide +kernel)
    (case l10 => first | k_is | k_exc | rfl | decide +kernel)
    (case c10 => first | k_is | k_exc | rfl | decide +kernel)
    (case k10 => first | k_is | k_exc | rfl | decide +kernel)
    (case a11 => first | k_is | k_exc | rfl | decide +kernel)
    (case l11 => first | k_is | k_exc | rfl | decide +kernel)
    (case c11 => first | k_is | k_exc | rfl | decide +kernel)
    (case k11 => first | k_is | k_exc | rfl | decide +kernel)
    (case a12 => first | k_is | k_exc | rfl | decide +kernel)
    (case l12 => first | k_is | k_exc | rfl | decide +kernel)
    (case c12 => first | k_is | k_exc | rfl | decide +kernel)
    (case k12 => first | k_is | k_exc | rfl | decide +kernel)
    (case a13 => first | k_is | k_exc | rfl | decide +kernel)
    (case l13 => first | k_is | k_exc | rfl | decide +kernel)
    (case c13 => first | k_is | k_exc | rfl | decide +kernel)
    (case k13 => first | k_is | k_exc | rfl | decide +kernel)
    (case a14 => first | k_is | k_exc | rfl | decide +kernel)
    (case l14 => first | k_is | k_exc | rfl | decide +kernel)
    (case c14 => first | k_is | k_exc | rfl | decide +kernel)
    (case k14 => first | k_is | k_exc | rfl | decide +kernel)
    (case a15 => first | k_is | k_exc | rfl | decide +kernel)
    (case l15 => first | k_is | k_exc | rfl | decide +kernel)
    (case c15 => first | k_is | k_exc | rfl | decide +kernel)
    (case k15 => first | k_is | k_exc | rfl | decide +kernel)
    (case a16 => first | k_is | k_exc | rfl | decide +kernel)
    (case l16 => first | k_is | k_exc | rfl | decide +kernel)
    (case c16 => first | k_is | k_exc | rfl | decide +kernel)
    (case k16 => first | k_is | k_exc | rfl | decide +kernel)
    (case a17 => first | k_is | k_exc | rfl | decide +kernel)
    (case i17 => first | k_is | k_exc | rfl | decide +kernel)
    (case l17 => first | k_is | k_exc | rfl | decide +kernel)
    (case c17 => first | k_is | k_exc | rfl | decide +kernel)
    (case k17 => first | k_is | k_exc | rfl | decide +kernel)
    (case a18 => first | k_is | k_exc | rfl | decide +kernel)
    (case i18 => first | k_is | k_exc | rfl | decide +kernel)
    (case l18 => first | k_is | k_exc | rfl | decide +kernel)
    (case c18 => first | k_is | k_exc | rfl | decide +kernel)
    (case k18 => first | k_is | k_exc | rfl | decide +kernel)
    (case a19 => first | k_is | k_exc | rfl | decide +kernel)
    (case i19 => first | k_is | k_exc | rfl | decide +kernel)
    (case l19 => first | k_is | k_exc | rfl | decide +kernel)
    (case c19 => first | k_is | k_exc | rfl | decide +kernel)
    (case k19 => first | k_is | k_exc | rfl | decide +kernel)
    (case a20 => first | k_is | k_exc | rfl | decide +kernel)
    (case i20 => first | k_is | k_exc | rfl | decide +kernel)
    (case l20 => first | k_is | k_exc | rfl | decide +kernel)
    (case c20 => first | k_is | k_exc | rfl | decide +kernel)
    (case k20 => first | k_is | k_exc | rfl | decide +kernel)
    (case a21 => first | k_is | k_exc | rfl | decide +kernel)
    (case i21 => first | k_is | k_exc | rfl | decide +kernel)
    (case l21 => first | k_is | k_exc | rfl | decide +kernel)
    (case c21 => first | k_is | k_exc | rfl | decide +kernel)
    (case k21 => first | k_is | k_exc | rfl | decide +kernel)
    (case a22 => first | k_is | k_exc | rfl | decide +kernel)
    (case i22 => first | k_is | k_exc | rfl | decide +kernel)
    (case l22 => first | k_is | k_exc | rfl | decide +kernel)
    (case c22 => first | k_is | k_exc | rfl | decide +kernel)
    (case k22 => first | k_is | k_exc | rfl | decide +kernel)
    (case a23 => first | k_is | k_exc | rfl | decide +kernel)
    (case i23 => first | k_is | k_exc | rfl | decide +kernel)
    (case l23 => first | k_is | k_exc | rfl | decide +kernel)
    (case c23 => first | k_is | k_exc | rfl | decide +kernel)
    (case k23 => first | k_is | k_exc | rfl | decide +kernel)
    (case a24 => first | k_is | k_exc | rfl | decide +kernel)
    (case i24 => first | k_is | k_exc | rfl | decide +kernel)
    (case l24 => first | k_is | k_exc | rfl | decide +kernel)
    (case c24 => first | k_is | k_exc | rfl | decide +kernel)
    (case k24 => first | k_is | k_exc | rfl | decide +kernel)
    (case a25 => first | k_is | k_exc | rfl | decide +kernel)
    (case i25 => first | k_is | k_exc | rfl | decide +kernel)
    (case l25 => first | k_is | k_exc | rfl | decide +kernel)
    (case c25 => first | k_is | k_exc | rfl | decide +kernel)
    (case k25 => first | k_is | k_exc | rfl | decide +kernel)
    (case a26 => first | k_is | k_exc | rfl | decide +kernel)
    (case i26 => first | k_is | k_exc | rfl | decide +kernel)
    (case l26 => first | k_is | k_exc | rfl | decide +kernel)
    (case c26 => first | k_is | k_exc | rfl | decide +kernel)
    (case k26 => first | k_is | k_exc | rfl | decide +kernel)
    (case a27 => first | k_is | k_exc | rfl | decide +kernel)
    (case i27 => first | k_is | k_exc | rfl | decide +kernel)
    (case l27 => first | k_is | k_exc | rfl | decide +kernel)
    (case c27 => first | k_is | k_exc | rfl | decide +kernel)
    (case k27 => first | k_is | k_exc | rfl | decide +kernel)
    (case a28 => first | k_is | k_exc | rfl | decide +kernel)
    (case i28 => first | k_is | k_exc | rfl | decide +kernel)
    (case l28 => first | k_is | k_exc | rfl | decide +kernel)
    (case c28 => first | k_is | k_exc | rfl | decide +kernel)
    (case k28 => first | k_is | k_exc | rfl | decide +kernel)
    (case a29 => first | k_is | k_exc | rfl | decide +kernel)
    (case i29 => first | k_is | k_exc | rfl | decide +kernel)
    (case l29 => first | k_is | k_exc | rfl | decide +kernel)
    (case c29 => first | k_is | k_exc | rfl | decide +kernel)
    (case k29 => first | k_is | k_exc | rfl | decide +kernel)
    (case xZ => first | k_is | k_exc | rfl | decide +kernel)
    (case lT => first | k_is | k_exc | rfl | decide +kernel)
    (case dT => first | k_is | k_exc | rfl | decide +kernel)
