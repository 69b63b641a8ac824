import PyProof.Rows.All
import Wide.All
import OpenK.AllK
import Wide.FinOn
import HandS.ForMost
import HandS.ForExc
import HandS.Gcd
import HandS.IsInst
import HandS.WideBits
import HandS.Defaults
import HandS.Records
import HandS.Lambda
import KE.KOpsOwn
import PyProof.InstNe
import PyProof.FactsInt
import HandS.ExcIs
import HandS.TryMany
import HandS.ClsMeth
import HandS.Zip
import PyProof.EqKinds
import HandS.Deep
import HandS.SortInts
import HandS.TupAny
import KE.SortData
import PyProof.ListRange
import HandS.SortKw
import KE.SortKeyHeap
import HandS.Keys
import HandS.Nested
import HandS.Walk
import HandS.Iter
import HandS.Comp
import HandS.Head0
import HandS.Head1
import HandS.Head2
import HandS.Head3
import HandS.HeadEnd
import HandS.HeadHook1
import HandS.HeadHook2
import HandS.HeadNt
import KE.KNestM
import HandS.EndTab
import HandS.HeadWalk
import HandS.ForSpec
import PySem.Challenge.RW_heightsfitted_k26_orders_arrange
set_option Elab.async false
set_option linter.all false
set_option maxRecDepth 100000
/-! Fw1: a logic over data, on top of the hand layer: values as plain data, readings as semantic preconditions. -/
namespace DL
open PySem PySem.Spec PyProof.Rows L2

/-! ### semantic preconditions -/
section
variable (X : Cx)
def we (e : Expr) : TE := fun σ H Q => ∀ pins s, Inv X pins σ H s → wpAny (model X.prog X.w) X.A (eval e X.env) (EP X pins σ Q) X.xe s
def wt (e : Expr) : TT := fun σ H Q => ∀ pins s, Inv X pins σ H s → wpAny (model X.prog X.w) X.A (isTrue e X.env (eval e X.env)) (TP X pins σ Q) X.xe s
def ww (e : Expr) : TT := fun σ H Q => ∀ whole pins s, Inv X pins σ H s → wpAny (model X.prog X.w) X.A (isTrue e X.env whole) (TP X pins σ Q) X.xe s
def wa (es : List Expr) : TA := fun σ H Q => ∀ pos pins s, Inv X pins σ H s → wpAny (model X.prog X.w) X.A (spliced (backTo pos (starEach es X.env))) (AP X pins σ Q) X.xe s
def ws1 (st : Stmt) : TS := fun D σ H => ∀ pins s, Inv X pins σ H s → wpAny (model X.prog X.w) X.A (exec st X.env) (SP X pins D) X.xe s
def ws (st : List Stmt) : TS := fun D σ H => ∀ pins s, Inv X pins σ H s → wpAny (model X.prog X.w) X.A (execs st X.env) (SP X pins D) X.xe s
def wop (f : Value → Value → Sem Value) : R2 := fun x y H Q => ∀ pins σ s v u, Inv X pins σ H s → RelV x v → RelV y u → wpAny (model X.prog X.w) X.A (f v u) (EP X pins σ Q) X.xe s
def wun (f : Value → Sem Value) : V → Hp → VK → Prop := fun x H Q => ∀ pins σ s v, Inv X pins σ H s → RelV x v → wpAny (model X.prog X.w) X.A (f v) (EP X pins σ Q) X.xe s
def wcall (f : Value) : List V → Hp → VK → Prop := fun xs H Q => ∀ pins σ s us, Inv X pins σ H s → Vals xs us → wpAny (model X.prog X.w) X.A (call f us) (EP X pins σ Q) X.xe s
def wmt (id : String) : V → List V → Hp → VK → Prop := fun x xs H Q => ∀ pins σ s v us, Inv X pins σ H s → RelV x v → Vals xs us → wpAny (model X.prog X.w) X.A (call (.builtin id) (v :: us)) (EP X pins σ Q) X.xe s
def wtr : V → Hp → (Bool → Hp → Prop) → Prop := fun x H Q => ∀ pins σ s v, Inv X pins σ H s → RelV x v → wpAny (model X.prog X.w) X.A (truthy v) (TP X pins σ Q) X.xe s
end
section
variable {X : Cx}
theorem pe_we {e : Expr} : PE X e (we X e) := ⟨fun pins s σ H Q I h => h pins s I⟩
theorem pt_wt {e : Expr} : PT X e (wt X e) := ⟨fun pins s σ H Q I h => h pins s I⟩
theorem pw_ww {e : Expr} : PW X e (ww X e) := ⟨fun whole pins s σ H Q I h => h whole pins s I⟩
theorem pa_wa {es : List Expr} : PA X es (wa X es) := ⟨fun pos pins s σ H Q I h => h pos pins s I⟩
theorem ps_ws1 {st : Stmt} : PS X st (ws1 X st) := ⟨fun pins s σ H D I h => h pins s I⟩
theorem pss_ws {st : List Stmt} : PSs X st (ws X st) := ⟨fun pins s σ H D I h => h pins s I⟩
theorem opr_wop {f : Value → Value → Sem Value} : OpR X f (wop X f) := fun pins s σ H x y v u Q I rx ry h => h pins σ s v u I rx ry
theorem unr_wun {f : Value → Sem Value} : UnR X f (wun X f) := fun pins s σ H x v Q I rx h => h pins σ s v I rx
theorem callr_w {f : Value} : CallR X f (wcall X f) := fun pins s σ H xs us Q I r h => h pins σ s us I r
theorem mt_w {id : String} : MtR X id (wmt X id) := fun pins s σ H x xs v us Q I rx r h => h pins σ s v us I rx r
theorem tru_w : TruR X (wtr X) := fun pins s σ H x v Q I rx h => h pins σ s v I rx
theorem _root_.L2.PE.to {e : Expr} {t : TE} {σ : L2.St} {H : Hp} {Q : VK} (p : PE X e t) (h : t σ H Q) : we X e σ H Q := fun pins s I => p.run pins s σ H Q I h
theorem _root_.L2.PT.to {e : Expr} {t : TT} {σ : L2.St} {H : Hp} {Q : Bool → Hp → Prop} (p : PT X e t) (h : t σ H Q) : wt X e σ H Q := fun pins s I => p.run pins s σ H Q I h
theorem _root_.L2.PW.to {e : Expr} {t : TT} {σ : L2.St} {H : Hp} {Q : Bool → Hp → Prop} (p : PW X e t) (h : t σ H Q) : ww X e σ H Q := fun whole pins s I => p.run whole pins s σ H Q I h
theorem _root_.L2.PA.to {es : List Expr} {t : TA} {σ : L2.St} {H : Hp} {Q : List V → Hp → Prop} (p : PA X es t) (h : t σ H Q) : wa X es σ H Q := fun pos pins s I => p.run pos pins s σ H Q I h
theorem _root_.L2.PS.to {st : Stmt} {t : TS} {σ : L2.St} {H : Hp} {De : Ends} (p : PS X st t) (h : t De σ H) : ws1 X st De σ H := fun pins s I => p.run pins s σ H De I h
theorem _root_.L2.PSs.to {st : List Stmt} {t : TS} {σ : L2.St} {H : Hp} {De : Ends} (p : PSs X st t) (h : t De σ H) : ws X st De σ H := fun pins s I => p.run pins s σ H De I h
theorem _root_.L2.OpR.to {f : Value → Value → Sem Value} {r : R2} {x y : V} {H : Hp} {Q : VK} (p : OpR X f r) (h : r x y H Q) : wop X f x y H Q := fun pins σ s v u I rx ry => p pins s σ H x y v u Q I rx ry h
theorem _root_.L2.UnR.to {f : Value → Sem Value} {r : V → Hp → VK → Prop} {x : V} {H : Hp} {Q : VK} (p : UnR X f r) (h : r x H Q) : wun X f x H Q := fun pins σ s v I rx => p pins s σ H x v Q I rx h
theorem _root_.L2.CallR.to {f : Value} {r : List V → Hp → VK → Prop} {xs : List V} {H : Hp} {Q : VK} (p : CallR X f r) (h : r xs H Q) : wcall X f xs H Q := fun pins σ s us I rx => p pins s σ H xs us Q I rx h
theorem _root_.L2.MtR.to {id : String} {r : V → List V → Hp → VK → Prop} {x : V} {xs : List V} {H : Hp} {Q : VK} (p : MtR X id r) (h : r x xs H Q) : wmt X id x xs H Q := fun pins σ s v us I rx rr => p pins s σ H x xs v us Q I rx rr h
theorem _root_.L2.TruR.to {r : V → Hp → (Bool → Hp → Prop) → Prop} {x : V} {H : Hp} {Q : Bool → Hp → Prop} (p : TruR X r) (h : r x H Q) : wtr X x H Q := fun pins σ s v I rx => p pins s σ H x v Q I rx h
theorem wt_mono {e : Expr} {σ : L2.St} {H : Hp} {Q Q' : Bool → Hp → Prop} (k : ∀ b H1, Q b H1 → Q' b H1) (h : wt X e σ H Q) : wt X e σ H Q' := fun pins s I => thn (h pins s I) fun b s1 ⟨H1, I1, q⟩ => ⟨H1, I1, k b H1 q⟩
end

/-! ### data -/
inductive D where
  | non | bl (b : Bool) | int (i : Int) | str (s : Str) | ty (n : String) | ref (a : Addr)
  | tup (ds : List D) | lst (ds : List D) | rol (ds : List D) | rot (ds : List D) | ins (C : Addr) (ns : List Str) (ds : List D) | dct (ks : List (List Int)) (ds : List D)
/-- what a name may hold: data, or one of the def's own cells -/
inductive R where
  | d (x : D) | c (k : Nat)
/-- a cell that may change: a list, an instance; known only by a property -/
inductive Cell where
  | gone | lst (rs : List R) | ins (C : Addr) (ns : List Str) (rs : List R) | any (P : List D → Prop) | dct (ks : List (List Int)) (rs : List R) | tab (q : Str)
/-- a key of a dict -/
abbrev keyI (k : List Int) : List Key := k.map Sum.inl
/-- a dict's entries: keys that are tuples of ints -/
def entD (ks : List (List Int)) (xs : List V) : List (List Key × V) := (ks.map keyI).zip xs

section
variable (K : PySem.W.Frag) (G : Hp)
mutual
def Rep : D → V → Prop
  | .non, v => v = .non
  | .bl b, v => v = .bl b
  | .int i, v => v = .int i
  | .str s, v => v = .str s
  | .ty n, v => v = .ty n
  | .ref a, v => v = .ref a
  | .tup ds, v => ∃ p xs, v = .ref p ∧ G p = some (.tup xs) ∧ Reps ds xs
  | .rot ds, v => ∃ p xs, v = .ref p ∧ SqT K G p xs ∧ Reps ds xs
  | .dct ks ds, v => ∃ p xs, v = .ref p ∧ G p = some (.dT (entD ks xs)) ∧ ks.length = ds.length ∧ ks.Nodup ∧ Reps ds xs
  | .lst ds, v => ∃ p xs, v = .ref p ∧ G p = some (.lst xs) ∧ Reps ds xs
  | .rol ds, v => ∃ p xs, v = .ref p ∧ SqL K G p xs ∧ Reps ds xs
  | .ins C ns ds, v => ∃ p dx xs, v = .ref p ∧ G p = some (.ins C dx (ns.zip xs)) ∧ ns.length = ds.length ∧ Reps ds xs
def Reps : List D → List V → Prop
  | [], xs => xs = []
  | d :: ds, xs => ∃ x r, xs = x :: r ∧ Rep d x ∧ Reps ds r
end
end
theorem Same.seqT {K : PySem.W.Frag} {H H' : Hp} {a : Addr} {xs : List V} (e : Same H H') (h : SqT K H a xs) : SqT K H' a xs := by
  rcases h with (h | ⟨o, h⟩) | h
  · exact .inl (.inl (e _ _ h))
  · exact .inl (.inr ⟨o, e _ _ h⟩)
  · exact .inr h
section
variable {K : PySem.W.Frag} {G G' : Hp}
mutual
theorem Rep.mono (e : Same G G') : ∀ {d : D} {v : V}, Rep K G d v → Rep K G' d v
  | .non, _, h => by simpa only [Rep] using h
  | .bl b, _, h => by simpa only [Rep] using h
  | .int i, _, h => by simpa only [Rep] using h
  | .str s, _, h => by simpa only [Rep] using h
  | .ty n, _, h => by simpa only [Rep] using h
  | .ref a, _, h => by simpa only [Rep] using h
  | .tup ds, _, h => by
    simp only [Rep] at h ⊢
    obtain ⟨p, xs, h1, h2, h3⟩ := h
    exact ⟨p, xs, h1, e _ _ h2, Reps.mono e h3⟩
  | .rot ds, _, h => by
    simp only [Rep] at h ⊢
    obtain ⟨p, xs, h1, h2, h3⟩ := h
    exact ⟨p, xs, h1, Same.seqT e h2, Reps.mono e h3⟩
  | .dct ks ds, _, h => by
    simp only [Rep] at h ⊢
    obtain ⟨p, xs, h1, h2, h3, h5, h4⟩ := h
    exact ⟨p, xs, h1, e _ _ h2, h3, h5, Reps.mono e h4⟩
  | .lst ds, _, h => by
    simp only [Rep] at h ⊢
    obtain ⟨p, xs, h1, h2, h3⟩ := h
    exact ⟨p, xs, h1, e _ _ h2, Reps.mono e h3⟩
  | .rol ds, _, h => by
    simp only [Rep] at h ⊢
    obtain ⟨p, xs, h1, h2, h3⟩ := h
    exact ⟨p, xs, h1, e.seq h2, Reps.mono e h3⟩
  | .ins C ns ds, _, h => by
    simp only [Rep] at h ⊢
    obtain ⟨p, dx, xs, h1, h2, h3, h4⟩ := h
    exact ⟨p, dx, xs, h1, e _ _ h2, h3, Reps.mono e h4⟩
theorem Reps.mono (e : Same G G') : ∀ {ds : List D} {xs : List V}, Reps K G ds xs → Reps K G' ds xs
  | [], _, h => by simpa only [Reps] using h
  | d :: ds, _, h => by
    simp only [Reps] at h ⊢
    obtain ⟨x, r, h1, h2, h3⟩ := h
    exact ⟨x, r, h1, Rep.mono e h2, Reps.mono e h3⟩
end
theorem Reps.length : ∀ {ds : List D} {xs : List V}, Reps K G ds xs → ds.length = xs.length
  | [], _, h => by simp only [Reps] at h; subst h; rfl
  | d :: ds, _, h => by
    simp only [Reps] at h
    obtain ⟨x, r, rfl, _, h3⟩ := h
    rw [List.length_cons, List.length_cons, Reps.length h3]
theorem Reps.get : ∀ {ds : List D} {xs : List V} {i : Nat} {d : D}, Reps K G ds xs → ds[i]? = some d → ∃ x, xs[i]? = some x ∧ Rep K G d x
  | [], _, i, d, _, e => by simp at e
  | a :: ds, _, 0, d, h, e => by
    simp only [Reps] at h
    obtain ⟨x, r, rfl, h2, _⟩ := h
    simp at e
    subst e
    exact ⟨x, rfl, h2⟩
  | a :: ds, _, i + 1, d, h, e => by
    simp only [Reps] at h
    obtain ⟨x, r, rfl, _, h3⟩ := h
    obtain ⟨y, e1, e2⟩ := Reps.get (i := i) h3 (by simpa using e)
    exact ⟨y, by simpa using e1, e2⟩
theorem Reps.nil : Reps K G [] [] := by simp only [Reps]
theorem Reps.cons {d : D} {ds : List D} {x : V} {xs : List V} (h : Rep K G d x) (t : Reps K G ds xs) : Reps K G (d :: ds) (x :: xs) := by
  simp only [Reps]
  exact ⟨x, xs, rfl, h, t⟩
theorem Reps.append : ∀ {ds es : List D} {xs ys : List V}, Reps K G ds xs → Reps K G es ys → Reps K G (ds ++ es) (xs ++ ys)
  | [], _, _, _, h, t => by simp only [Reps] at h; subst h; exact t
  | d :: ds, _, _, _, h, t => by
    simp only [Reps] at h
    obtain ⟨x, r, rfl, h2, h3⟩ := h
    exact Reps.cons h2 (Reps.append h3 t)
theorem Reps.take : ∀ {ds : List D} {xs : List V} (n : Nat), Reps K G ds xs → Reps K G (ds.take n) (xs.take n)
  | [], _, n, h => by simp only [Reps] at h; subst h; simp only [List.take_nil]; exact Reps.nil
  | d :: ds, _, 0, h => by simp only [List.take_zero]; exact Reps.nil
  | d :: ds, _, n + 1, h => by
    simp only [Reps] at h
    obtain ⟨x, r, rfl, h2, h3⟩ := h
    exact Reps.cons h2 (Reps.take n h3)
theorem Reps.drop : ∀ {ds : List D} {xs : List V} (n : Nat), Reps K G ds xs → Reps K G (ds.drop n) (xs.drop n)
  | [], _, n, h => by simp only [Reps] at h; subst h; simp only [List.drop_nil]; exact Reps.nil
  | d :: ds, _, 0, h => h
  | d :: ds, _, n + 1, h => by
    simp only [Reps] at h
    obtain ⟨x, r, rfl, h2, h3⟩ := h
    exact Reps.drop n h3
theorem Reps.ints : ∀ {ns : List Int} {xs : List V}, Reps K G (ns.map D.int) xs → xs = ns.map V.int
  | [], _, h => by simpa only [List.map_nil, Reps] using h
  | n :: ns, _, h => by
    simp only [List.map_cons, Reps, Rep] at h
    obtain ⟨x, r, rfl, rfl, h3⟩ := h
    rw [Reps.ints h3]; rfl
theorem Reps.ofInts : ∀ {ns : List Int}, Reps K G (ns.map D.int) (ns.map V.int)
  | [] => Reps.nil
  | n :: ns => Reps.cons (by simp only [Rep]) Reps.ofInts
end

/-! ### hidden addresses -/
def msk (S : List Addr) (H : Hp) : Hp := fun b => if b ∈ S then none else H b
section
variable {S T : List Addr} {H H' : Hp} {a l : Addr} {o : HO}
theorem msk_in (h : a ∈ S) : msk S H a = none := by unfold msk; rw [if_pos h]
theorem msk_out (h : a ∉ S) : msk S H a = H a := by unfold msk; rw [if_neg h]
theorem msk_same (S : List Addr) (H : Hp) : Same (msk S H) H := fun b o e => by
  unfold msk at e
  split at e
  · cases e
  · exact e
theorem msk_le (h : ∀ b ∈ T, b ∈ S) : Same (msk S H) (msk T H) := fun b o e => by
  unfold msk at e ⊢
  split at e
  · cases e
  · rename_i hb
    rw [if_neg fun z => hb (h b z)]
    exact e
theorem msk_mono (h : Same H H') : Same (msk S H) (msk S H') := fun b o e => by
  unfold msk at e ⊢
  split at e
  · cases e
  · rename_i hb
    rw [if_neg hb]
    exact h b o e
theorem msk_but (h : ∀ b o, b ∉ S → H b = some o → H' b = some o) : Same (msk S H) (msk S H') := fun b o e => by
  unfold msk at e ⊢
  split at e
  · cases e
  · rename_i hb
    rw [if_neg hb]
    exact h b o hb e
theorem msk_congr (h : ∀ b, b ∈ S ↔ b ∈ T) : msk S H = msk T H := by
  funext b
  unfold msk
  simp only [h b]
theorem msk_upd_in (h : l ∈ S) : msk S (upd H l o) = msk S H := by
  funext b
  unfold msk
  split
  · rfl
  · rename_i hb
    rw [upd_ne (fun z => hb (by rw [z]; exact h))]
end

/-! ### the state: cells, what stands as it was -/
/-- a thing that may be hidden: there, and no tuple -/
def Hid (o : Option HO) : Prop := ∃ u, o = some u ∧ ∀ xs, u ≠ .tup xs
theorem Hid.ne {o : Option HO} (h : Hid o) : o ≠ none := by obtain ⟨u, rfl, _⟩ := h; exact fun z => by cases z
theorem Hid.up {H H' : Hp} {b : Addr} (e : ∀ o, H b = some o → H' b = some o) (h : Hid (H b)) : Hid (H' b) := by obtain ⟨u, e1, n⟩ := h; exact ⟨u, e u e1, n⟩
theorem Hid.of {H : Hp} {b : Addr} {u : HO} (e : H b = some u) (n : ∀ xs, u ≠ .tup xs) : Hid (H b) := ⟨u, e, n⟩
structure Fm where
  H0 : Hp
  S0 : List Addr
  mu : List Addr
  la : List Addr := []
  ga : Hp := fun _ => none
abbrev Fm.of (H0 : Hp) (S0 mu : List Addr) : Fm := { H0 := H0, S0 := S0, mu := mu }
def live : List Addr → List Cell → List Addr
  | _ :: ls, .gone :: own => live ls own
  | l :: ls, _ :: own => l :: live ls own
  | _, _ => []
theorem live_mem : ∀ {ls : List Addr} {own : List Cell} {l : Addr}, l ∈ live ls own → l ∈ ls
  | [], _, _, h => by simp [live] at h
  | a :: ls, [], _, h => by simp [live] at h
  | a :: ls, c :: own, l, h => by
    cases c <;> simp only [live, List.mem_cons] at h ⊢
    · exact .inr (live_mem h)
    all_goals
      rcases h with h | h
      · exact .inl h
      · exact .inr (live_mem h)
theorem live_get : ∀ {ls : List Addr} {own : List Cell} {k : Nat} {l : Addr} {c : Cell}, ls[k]? = some l → own[k]? = some c → c ≠ .gone → l ∈ live ls own
  | [], _, k, l, c, h, _, _ => by simp at h
  | a :: ls, [], k, l, c, _, h, _ => by simp at h
  | a :: ls, e :: own, 0, l, c, h, h', hc => by
    simp at h h'
    subst h h'
    cases e <;> simp only [live, List.mem_cons, true_or] <;> exact absurd rfl hc
  | a :: ls, e :: own, k + 1, l, c, h, h', hc => by
    have := live_get (ls := ls) (own := own) (k := k) (by simpa using h) (by simpa using h') hc
    cases e <;> simp only [live, List.mem_cons]
    · exact this
    all_goals exact .inr this
theorem live_of : ∀ {ls : List Addr} {own : List Cell} {l : Addr}, l ∈ live ls own → ∃ (k : Nat) (c : Cell), ls[k]? = some l ∧ own[k]? = some c ∧ c ≠ .gone
  | [], _, _, h => by simp [live] at h
  | a :: ls, [], _, h => by simp [live] at h
  | a :: ls, e :: own, l, h => by
    have rec_ : l ∈ live ls own → ∃ (k : Nat) (c : Cell), (a :: ls)[k]? = some l ∧ (e :: own)[k]? = some c ∧ c ≠ .gone := fun h => by
      obtain ⟨k, c, h1, h2, h3⟩ := live_of h
      exact ⟨k + 1, c, by simpa using h1, by simpa using h2, h3⟩
    cases e <;> simp only [live, List.mem_cons] at h
    · exact rec_ h
    all_goals
      rcases h with h | h
      · exact ⟨0, _, by simp [h], rfl, fun z => by cases z⟩
      · exact rec_ h
/-- a cell's new content leaves the same addresses hidden -/
theorem live_set : ∀ {ls : List Addr} {own : List Cell} {k : Nat} {c c' : Cell}, own[k]? = some c → c ≠ .gone → c' ≠ .gone → live ls (own.set k c') = live ls own
  | [], _, _, _, _, _, _, _ => by simp [live]
  | a :: ls, [], k, _, _, h, _, _ => by simp at h
  | a :: ls, e :: own, 0, c, c', h, hc, hc' => by
    simp at h
    subst h
    cases e <;> cases c' <;> simp only [List.set_cons_zero, live] <;> first | exact absurd rfl hc | exact absurd rfl hc'
  | a :: ls, e :: own, k + 1, c, c', h, hc, hc' => by
    have := live_set (ls := ls) (own := own) (k := k) (c := c) (c' := c') (by simpa using h) hc hc'
    cases e <;> simp only [List.set_cons_succ, live, this]
theorem live_snoc : ∀ {ls : List Addr} {own : List Cell} {l : Addr} {c : Cell}, ls.length = own.length → c ≠ .gone → live (ls ++ [l]) (own ++ [c]) = live ls own ++ [l]
  | [], [], l, c, _, hc => by cases c <;> simp [live] at hc ⊢
  | [], _ :: _, _, _, h, _ => by simp at h
  | _ :: _, [], _, _, h, _ => by simp at h
  | a :: ls, e :: own, l, c, h, hc => by
    have := live_snoc (ls := ls) (own := own) (l := l) (c := c) (by simpa using h) hc
    cases e <;> simp only [List.cons_append, live, this]

def RRep (K : PySem.W.Frag) (ls : List Addr) (G : Hp) : R → V → Prop
  | .d x, v => Rep K G x v
  | .c k, v => ∃ l, ls[k]? = some l ∧ v = .ref l
abbrev RReps (K : PySem.W.Frag) (ls : List Addr) (G : Hp) : List R → List V → Prop := Paired (RRep K ls G)
def CellAt (K : PySem.W.Frag) (ls : List Addr) (G H : Hp) (l : Addr) : Cell → Prop
  | .gone => True
  | .lst rs => ∃ xs, H l = some (.lst xs) ∧ RReps K ls G rs xs
  | .ins C ns rs => ∃ dx xs, H l = some (.ins C dx (ns.zip xs)) ∧ ns.length = rs.length ∧ RReps K ls G rs xs
  | .any P => ∃ xs ds, H l = some (.lst xs) ∧ Reps K G ds xs ∧ P ds
  | .dct ks rs => ∃ xs, H l = some (.dT (entD ks xs)) ∧ ks.length = rs.length ∧ ks.Nodup ∧ RReps K ls G rs xs
  | .tab q => ∃ ps : Array Value, H l = some (.tbl ps) ∧ TriplesOk ps.toList ∧ ∀ (pos : Pos) (cv : Value), codeAmong pos ps.toList = some cv → ∃ c, cv = .ref c ∧ G c = some (LamX.CodeO c q)
abbrev Fm.g (F : Fm) (ls : List Addr) (own : List Cell) (H : Hp) : Hp := msk (F.S0 ++ live ls own) H
structure St0 (K : PySem.W.Frag) (F : Fm) (ls : List Addr) (own : List Cell) (H : Hp) : Prop where
  len : ls.length = own.length
  nd : ls.Nodup
  new : ∀ l ∈ ls, l ∉ F.S0 ∧ (F.H0 l = none ∨ l ∈ F.mu)
  at_ : ∀ (k : Nat) (l : Addr) (c : Cell), ls[k]? = some l → own[k]? = some c → CellAt K ls (F.g ls own H) H l c
  keep : ∀ b o, b ∉ F.mu → F.H0 b = some o → H b = some o
  dom : ∀ b, F.H0 b ≠ none → H b ≠ none
  s0 : ∀ b ∈ F.S0, Hid (H b)
  there : ∀ l ∈ ls, H l ≠ none
  ap : F.la <+: ls
  as : Same F.ga (F.g ls own H)
/-- from one state to a later one -/
structure Le (F : Fm) (ls : List Addr) (own : List Cell) (H : Hp) (ls' : List Addr) (own' : List Cell) (H' : Hp) : Prop where
  pre : ls <+: ls'
  same : Same (F.g ls own H) (F.g ls' own' H')
theorem Le.refl {F : Fm} {ls : List Addr} {own : List Cell} {H : Hp} : Le F ls own H ls own H := ⟨List.prefix_rfl, Same.refl _⟩
theorem Le.trans {F : Fm} {ls ls1 ls2 : List Addr} {own own1 own2 : List Cell} {H H1 H2 : Hp} (a : Le F ls own H ls1 own1 H1) (b : Le F ls1 own1 H1 ls2 own2 H2) : Le F ls own H ls2 own2 H2 := ⟨a.pre.trans b.pre, a.same.trans b.same⟩
section
variable {K : PySem.W.Frag} {F : Fm} {ls ls' : List Addr} {own own' : List Cell} {H H' G G' : Hp}
theorem pre_get {k : Nat} {l : Addr} (p : ls <+: ls') (h : ls[k]? = some l) : ls'[k]? = some l := by
  obtain ⟨t, rfl⟩ := p
  have hk : k < ls.length := (List.getElem?_eq_some_iff.mp h).1
  rw [List.getElem?_append_left hk]
  exact h
theorem RRep.up {r : R} {v : V} (p : ls <+: ls') (e : Same G G') (h : RRep K ls G r v) : RRep K ls' G' r v := by
  cases r with
  | d x => exact Rep.mono (d := x) e h
  | c k =>
    obtain ⟨l, h1, h2⟩ := h
    exact ⟨l, pre_get p h1, h2⟩
theorem RReps.up {rs : List R} {vs : List V} (p : ls <+: ls') (e : Same G G') (h : RReps K ls G rs vs) : RReps K ls' G' rs vs := Paired.mapP h fun _ _ q => q.up p e
theorem RReps.ofD : ∀ {ds : List D} {xs : List V}, Reps K G ds xs → RReps K ls G (ds.map R.d) xs
  | [], _, h => by simp only [Reps] at h; subst h; exact .nil
  | d :: ds, _, h => by
    simp only [Reps] at h
    obtain ⟨x, r, rfl, h2, h3⟩ := h
    exact .cons h2 (RReps.ofD h3)
theorem RReps.toD : ∀ {ds : List D} {xs : List V}, RReps K ls G (ds.map R.d) xs → Reps K G ds xs
  | [], _, .nil => Reps.nil
  | d :: ds, _, .cons h t => Reps.cons h (RReps.toD t)
theorem RReps.length' : ∀ {rs : List R} {xs : List V}, RReps K ls G rs xs → rs.length = xs.length
  | _, _, .nil => rfl
  | _, _, .cons _ t => congrArg Nat.succ (RReps.length' t)
theorem RReps.get' : ∀ {rs : List R} {xs : List V} {i : Nat} {r : R}, RReps K ls G rs xs → rs[i]? = some r → ∃ x, xs[i]? = some x ∧ RRep K ls G r x
  | _, _, i, r, .nil, e => by simp at e
  | _, _, 0, r, .cons h t, e => by
    simp at e
    subst e
    exact ⟨_, rfl, h⟩
  | _, _, i + 1, r, .cons h t, e => by
    obtain ⟨x, e1, e2⟩ := RReps.get' (i := i) (r := r) t (by simpa using e)
    exact ⟨x, by simpa using e1, e2⟩
theorem CellAt.up {l : Addr} {c : Cell} (p : ls <+: ls') (e : Same G G') (hl : ∀ o, H l = some o → H' l = some o) (h : CellAt K ls G H l c) : CellAt K ls' G' H' l c := by
  cases c with
  | gone => exact True.intro
  | lst rs => obtain ⟨xs, h1, h2⟩ := h; exact ⟨xs, hl _ h1, h2.up p e⟩
  | ins C ns rs => obtain ⟨dx, xs, h1, h2, h3⟩ := h; exact ⟨dx, xs, hl _ h1, h2, h3.up p e⟩
  | any P => obtain ⟨xs, ds, h1, h2, h3⟩ := h; exact ⟨xs, ds, hl _ h1, Reps.mono e h2, h3⟩
  | dct ks rs => obtain ⟨xs, h1, h2, h4, h3⟩ := h; exact ⟨xs, hl _ h1, h2, h4, h3.up p e⟩
  | tab q => obtain ⟨ps, h1, h2, h3⟩ := h; exact ⟨ps, hl _ h1, h2, fun pos cv hc => (h3 pos cv hc).imp fun c z => ⟨z.1, e _ _ z.2⟩⟩
/-- every hidden address is there -/
theorem St0.hid (s : St0 K F ls own H) : ∀ b ∈ F.S0 ++ live ls own, Hid (H b) := fun b hb => by
  rcases List.mem_append.mp hb with h | h
  · exact s.s0 b h
  · obtain ⟨k, c, h1, h2, h3⟩ := live_of h
    have q := s.at_ k b c h1 h2
    cases c with
    | gone => exact absurd rfl h3
    | lst rs => obtain ⟨xs, e, _⟩ := q; exact .of e fun _ z => by cases z
    | ins C ns rs => obtain ⟨dx, xs, e, _⟩ := q; exact .of e fun _ z => by cases z
    | any P => obtain ⟨xs, ds, e, _⟩ := q; exact .of e fun _ z => by cases z
    | dct ks rs => obtain ⟨xs, e, _⟩ := q; exact .of e fun _ z => by cases z
    | tab q' => obtain ⟨ps, e, _⟩ := q; exact .of e fun _ z => by cases z
/-- the heap grows -/
theorem St0.grow (s : St0 K F ls own H) (e : Same H H') : St0 K F ls own H' where
  len := s.len
  nd := s.nd
  new := s.new
  at_ := fun k l c h1 h2 => (s.at_ k l c h1 h2).up List.prefix_rfl (msk_mono e) fun o => e l o
  keep := fun b o h1 h2 => e _ _ (s.keep b o h1 h2)
  dom := fun b h => by
    have := s.dom b h
    cases q : H b with
    | none => exact absurd q this
    | some o => rw [e b o q]; exact fun z => by cases z
  s0 := fun b h => (s.s0 b h).up (e b)
  there := fun b h => by
    have := s.there b h
    cases q : H b with
    | none => exact absurd q this
    | some o => rw [e b o q]; exact fun z => by cases z
  ap := s.ap
  as := s.as.trans (msk_mono e)
theorem Le.grow (e : Same H H') : Le F ls own H ls own H' := ⟨List.prefix_rfl, msk_mono e⟩
theorem same_new {p : Addr} {o : HO} (h : H p = none) : Same H (upd H p o) := fun b u e => by rw [upd_ne (ne_of_none e h)]; exact e
/-- a new object is seen -/
theorem St0.seen (s : St0 K F ls own H) {p : Addr} {o : HO} (hp : H p = none) : (F.g ls own (upd H p o)) p = some o := by
  have hn : p ∉ F.S0 ++ live ls own := fun z => (s.hid p z).ne hp
  show (msk (F.S0 ++ live ls own) (upd H p o)) p = some o
  rw [msk_out hn, upd_same]
end

/-! ### the names -/
def SR1 (K : PySem.W.Frag) (ls : List Addr) (G : Hp) : Option R → Option V → Prop
  | none, _ => True
  | some r, some v => RRep K ls G r v
  | some _, none => False
abbrev SRep (K : PySem.W.Frag) (ls : List Addr) (G : Hp) : List (Option R) → L2.St → Prop := Paired (SR1 K ls G)
section
variable {K : PySem.W.Frag} {F : Fm} {ls ls' : List Addr} {own own' : List Cell} {H H' G G' : Hp} {ρ : List (Option R)} {σ : L2.St}
theorem SRep.up (p : ls <+: ls') (e : Same G G') (h : SRep K ls G ρ σ) : SRep K ls' G' ρ σ := Paired.mapP h fun a b q => by
  cases a with
  | none => exact True.intro
  | some r =>
    cases b with
    | none => exact q.elim
    | some v => exact RRep.up p e q
theorem SRep.get : ∀ {ρ : List (Option R)} {σ : L2.St} {i : Nat} {r : R}, SRep K ls G ρ σ → ρ[i]? = some (some r) → ∃ v, σ[i]? = some (some v) ∧ RRep K ls G r v
  | _, _, i, r, .nil, e => by simp at e
  | _, _, 0, r, .cons (a := a) (b := b) h t, e => by
    simp at e
    subst e
    cases b with
    | none => exact h.elim
    | some v => exact ⟨v, rfl, h⟩
  | _, _, i + 1, r, .cons h t, e => by
    obtain ⟨v, e1, e2⟩ := SRep.get (i := i) (r := r) t (by simpa using e)
    exact ⟨v, by simpa using e1, e2⟩
theorem SRep.set {r : R} {v : V} (q : RRep K ls G r v) : ∀ {ρ : List (Option R)} {σ : L2.St} (i : Nat), SRep K ls G ρ σ → SRep K ls G (ρ.set i (some r)) (σ.set i (some v))
  | _, _, _, .nil => .nil
  | _, _, 0, .cons _ t => .cons q t
  | _, _, i + 1, .cons h t => .cons h (SRep.set q i t)
end
end DL

namespace DL
open PySem PySem.Spec PyProof.Rows L2

/-! ### judgements over data -/
abbrev QE := List Cell → R → Prop
abbrev QA := List Cell → List R → Prop
abbrev QT := List Cell → Bool → Prop
abbrev Ro := List (Option R)
/-- what a value's continuation is handed -/
def KV' (X : Cx) (F : Fm) (ls : List Addr) (own : List Cell) (H : Hp) (Q : QE) (Qv : VK) : Prop :=
  ∀ ls' own' H' r v, Le F ls own H ls' own' H' → St0 X.K F ls' own' H' → RRep X.K ls' (F.g ls' own' H') r v → Q own' r → Qv v H'
structure E (X : Cx) (F : Fm) (e : Expr) (Q : QE) (own : List Cell) (ρ : Ro)  : Prop where
  mk :: (run : ∀ ls σ H, St0 X.K F ls own H → SRep X.K ls (F.g ls own H) ρ σ → ∀ Qv : VK, KV' X F ls own H Q Qv → we X e σ H Qv)
instance {X : Cx} {F : Fm} {e : Expr} {Q : QE} {own : List Cell} {ρ : Ro}  : CoeFun (E X F e Q own ρ) (fun _ => ∀ ls σ H, St0 X.K F ls own H → SRep X.K ls (F.g ls own H) ρ σ → ∀ Qv : VK, KV' X F ls own H Q Qv → we X e σ H Qv) := ⟨E.run⟩
structure A (X : Cx) (F : Fm) (es : List Expr) (Q : QA) (own : List Cell) (ρ : Ro)  : Prop where
  mk :: (run : ∀ ls σ H, St0 X.K F ls own H → SRep X.K ls (F.g ls own H) ρ σ → ∀ Qv : List V → Hp → Prop,
    (∀ ls' own' H' rs vs, Le F ls own H ls' own' H' → St0 X.K F ls' own' H' → RReps X.K ls' (F.g ls' own' H') rs vs → Q own' rs → Qv vs H') → wa X es σ H Qv)
instance {X : Cx} {F : Fm} {es : List Expr} {Q : QA} {own : List Cell} {ρ : Ro}  : CoeFun (A X F es Q own ρ) (fun _ => ∀ ls σ H, St0 X.K F ls own H → SRep X.K ls (F.g ls own H) ρ σ → ∀ Qv : List V → Hp → Prop,
    (∀ ls' own' H' rs vs, Le F ls own H ls' own' H' → St0 X.K F ls' own' H' → RReps X.K ls' (F.g ls' own' H') rs vs → Q own' rs → Qv vs H') → wa X es σ H Qv) := ⟨A.run⟩
/-- operations by their names -/
inductive Opk where
  | bin (o : Operator) | cmp (o : CmpOp) | aug (o : Operator)
def Opk.f : Opk → Value → Value → Sem Value
  | .bin o => binaryOp o
  | .cmp o => compareOp o
  | .aug o => inplaceOp o
/-- a two-place operation on values -/
structure O2 (X : Cx) (F : Fm) (f : Opk) (x y : R) (Q : QE) (own : List Cell)  : Prop where
  mk :: (run : ∀ ls H u v, St0 X.K F ls own H → RRep X.K ls (F.g ls own H) x u → RRep X.K ls (F.g ls own H) y v → ∀ Qv : VK, KV' X F ls own H Q Qv → wop X f.f u v H Qv)
instance {X : Cx} {F : Fm} {f : Opk} {x y : R} {Q : QE} {own : List Cell}  : CoeFun (O2 X F f x y Q own) (fun _ => ∀ ls H u v, St0 X.K F ls own H → RRep X.K ls (F.g ls own H) x u → RRep X.K ls (F.g ls own H) y v → ∀ Qv : VK, KV' X F ls own H Q Qv → wop X f.f u v H Qv) := ⟨O2.run⟩
structure O1 (X : Cx) (F : Fm) (f : UnaryOp) (x : R) (Q : QE) (own : List Cell)  : Prop where
  mk :: (run : ∀ ls H u, St0 X.K F ls own H → RRep X.K ls (F.g ls own H) x u → ∀ Qv : VK, KV' X F ls own H Q Qv → wun X (unaryOp f) u H Qv)
instance {X : Cx} {F : Fm} {f : UnaryOp} {x : R} {Q : QE} {own : List Cell}  : CoeFun (O1 X F f x Q own) (fun _ => ∀ ls H u, St0 X.K F ls own H → RRep X.K ls (F.g ls own H) x u → ∀ Qv : VK, KV' X F ls own H Q Qv → wun X (unaryOp f) u H Qv) := ⟨O1.run⟩
/-- the call of a value that is known -/
structure Cl (X : Cx) (F : Fm) (f : Value) (rs : List R) (Q : QE) (own : List Cell)  : Prop where
  mk :: (run : ∀ ls H vs, St0 X.K F ls own H → RReps X.K ls (F.g ls own H) rs vs → ∀ Qv : VK, KV' X F ls own H Q Qv → wcall X f vs H Qv)
instance {X : Cx} {F : Fm} {f : Value} {rs : List R} {Q : QE} {own : List Cell}  : CoeFun (Cl X F f rs Q own) (fun _ => ∀ ls H vs, St0 X.K F ls own H → RReps X.K ls (F.g ls own H) rs vs → ∀ Qv : VK, KV' X F ls own H Q Qv → wcall X f vs H Qv) := ⟨Cl.run⟩
structure T (X : Cx) (F : Fm) (e : Expr) (Q : QT) (own : List Cell) (ρ : Ro)  : Prop where
  mk :: (run : ∀ ls σ H, St0 X.K F ls own H → SRep X.K ls (F.g ls own H) ρ σ → ∀ Qb : Bool → Hp → Prop,
    (∀ ls' own' H' b, Le F ls own H ls' own' H' → St0 X.K F ls' own' H' → Q own' b → Qb b H') → wt X e σ H Qb)
instance {X : Cx} {F : Fm} {e : Expr} {Q : QT} {own : List Cell} {ρ : Ro}  : CoeFun (T X F e Q own ρ) (fun _ => ∀ ls σ H, St0 X.K F ls own H → SRep X.K ls (F.g ls own H) ρ σ → ∀ Qb : Bool → Hp → Prop,
    (∀ ls' own' H' b, Le F ls own H ls' own' H' → St0 X.K F ls' own' H' → Q own' b → Qb b H') → wt X e σ H Qb) := ⟨T.run⟩
structure Tw (X : Cx) (F : Fm) (e : Expr) (Q : QT) (own : List Cell) (ρ : Ro)  : Prop where
  mk :: (run : ∀ ls σ H, St0 X.K F ls own H → SRep X.K ls (F.g ls own H) ρ σ → ∀ Qb : Bool → Hp → Prop,
    (∀ ls' own' H' b, Le F ls own H ls' own' H' → St0 X.K F ls' own' H' → Q own' b → Qb b H') → ww X e σ H Qb)
instance {X : Cx} {F : Fm} {e : Expr} {Q : QT} {own : List Cell} {ρ : Ro}  : CoeFun (Tw X F e Q own ρ) (fun _ => ∀ ls σ H, St0 X.K F ls own H → SRep X.K ls (F.g ls own H) ρ σ → ∀ Qb : Bool → Hp → Prop,
    (∀ ls' own' H' b, Le F ls own H ls' own' H' → St0 X.K F ls' own' H' → Q own' b → Qb b H') → ww X e σ H Qb) := ⟨Tw.run⟩
/-- a value's truth -/
structure Tr (X : Cx) (F : Fm) (x : R) (Q : QT) (own : List Cell)  : Prop where
  mk :: (run : ∀ ls H u, St0 X.K F ls own H → RRep X.K ls (F.g ls own H) x u → ∀ Qb : Bool → Hp → Prop,
    (∀ ls' own' H' b, Le F ls own H ls' own' H' → St0 X.K F ls' own' H' → Q own' b → Qb b H') → wtr X u H Qb)
instance {X : Cx} {F : Fm} {x : R} {Q : QT} {own : List Cell}  : CoeFun (Tr X F x Q own) (fun _ => ∀ ls H u, St0 X.K F ls own H → RRep X.K ls (F.g ls own H) x u → ∀ Qb : Bool → Hp → Prop,
    (∀ ls' own' H' b, Le F ls own H ls' own' H' → St0 X.K F ls' own' H' → Q own' b → Qb b H') → wtr X u H Qb) := ⟨Tr.run⟩

/-! ### statements -/
structure Po where
  nx : List Cell → Ro → Prop
  rt : List Cell → R → Prop
  bk : List Cell → Ro → Prop := fun _ _ => False
  ct : List Cell → Ro → Prop := fun _ _ => False
structure EndsOk (X : Cx) (F : Fm) (ls : List Addr) (own : List Cell) (H : Hp) (P : Po) (De : Ends) : Prop where
  nx : ∀ ls' own' H' ρ σ, Le F ls own H ls' own' H' → St0 X.K F ls' own' H' → SRep X.K ls' (F.g ls' own' H') ρ σ → P.nx own' ρ → De.nx σ H'
  rt : ∀ ls' own' H' r v, Le F ls own H ls' own' H' → St0 X.K F ls' own' H' → RRep X.K ls' (F.g ls' own' H') r v → P.rt own' r → De.rt v H'
  bk : ∀ ls' own' H' ρ σ, Le F ls own H ls' own' H' → St0 X.K F ls' own' H' → SRep X.K ls' (F.g ls' own' H') ρ σ → P.bk own' ρ → De.bk σ H'
  ct : ∀ ls' own' H' ρ σ, Le F ls own H ls' own' H' → St0 X.K F ls' own' H' → SRep X.K ls' (F.g ls' own' H') ρ σ → P.ct own' ρ → De.ct σ H'
structure W1 (X : Cx) (F : Fm) (st : Stmt) (P : Po) (own : List Cell) (ρ : Ro)  : Prop where
  mk :: (run : ∀ ls σ H, St0 X.K F ls own H → SRep X.K ls (F.g ls own H) ρ σ → ∀ De, EndsOk X F ls own H P De → ws1 X st De σ H)
instance {X : Cx} {F : Fm} {st : Stmt} {P : Po} {own : List Cell} {ρ : Ro}  : CoeFun (W1 X F st P own ρ) (fun _ => ∀ ls σ H, St0 X.K F ls own H → SRep X.K ls (F.g ls own H) ρ σ → ∀ De, EndsOk X F ls own H P De → ws1 X st De σ H) := ⟨W1.run⟩
structure W (X : Cx) (F : Fm) (sts : List Stmt) (P : Po) (own : List Cell) (ρ : Ro)  : Prop where
  mk :: (run : ∀ ls σ H, St0 X.K F ls own H → SRep X.K ls (F.g ls own H) ρ σ → ∀ De, EndsOk X F ls own H P De → ws X sts De σ H)
instance {X : Cx} {F : Fm} {sts : List Stmt} {P : Po} {own : List Cell} {ρ : Ro}  : CoeFun (W X F sts P own ρ) (fun _ => ∀ ls σ H, St0 X.K F ls own H → SRep X.K ls (F.g ls own H) ρ σ → ∀ De, EndsOk X F ls own H P De → ws X sts De σ H) := ⟨W.run⟩
/-- the target of an assignment -/
def wpg (X : Cx) (tg : Expr) : TG := fun v σ H Q => ∀ pins s u, Inv X pins σ H s → RelV v u → wpAny (model X.prog X.w) X.A (assign tg X.env u) (fun _ s' => ∃ σ' H', Inv X pins σ' H' s' ∧ Q σ' H') X.xe s

theorem EndsOk.up {X : Cx} {F : Fm} {ls ls' : List Addr} {own own' : List Cell} {H H' : Hp} {P : Po} {De : Ends} (le : Le F ls own H ls' own' H') (h : EndsOk X F ls own H P De) : EndsOk X F ls' own' H' P De :=
  ⟨fun _ _ _ _ _ l => h.nx _ _ _ _ _ (le.trans l), fun _ _ _ _ _ l => h.rt _ _ _ _ _ (le.trans l), fun _ _ _ _ _ l => h.bk _ _ _ _ _ (le.trans l), fun _ _ _ _ _ l => h.ct _ _ _ _ _ (le.trans l)⟩

section
variable {X : Cx} {F : Fm} {own : List Cell} {ρ : Ro} {Q : QE} {QA : QA} {QT : QT} {a b c e : Expr} {es : List Expr} {pos : Pos}

/-! ### expressions -/
theorem E.mono {Q' : QE} (k : ∀ o r, Q o r → Q' o r) (h : E X F e Q own ρ) : E X F e Q' own ρ := .mk fun ls σ H st sr Qv kk => h ls σ H st sr Qv fun _ _ _ _ _ l s r q => kk _ _ _ _ _ l s r (k _ _ q)
theorem E.var (i : Nat) {x : Str} {r : R} (hr : ρ[i]? = some (some r)) (h : Q own r) (hN : X.N[i]? = some x := by rfl) (hv : Vis X.env.scope x := by first | exact Or.inl rfl | exact Or.inr (Or.inl rfl) | exact Or.inr (Or.inr rfl)) (hd : (x == ("__debug__" : Str)) = false := by decide)
    (hcd : (x == ("__classdict__" : Str)) = false := by decide) : E X F (.Name x pos) Q own ρ := by
  constructor
  intro ls σ H st sr Qv k
  obtain ⟨v, e1, rv⟩ := sr.get hr
  exact (pe_var hN hv hd hcd).to ⟨v, e1, k _ _ _ r v Le.refl st rv h⟩
theorem E.int {i j} (h : Q own (.d (.int i))) : E X F (.Constant (.int i) j pos) Q own ρ := .mk fun ls σ H st sr Qv k => pe_int.to (k _ _ _ (.d (.int i)) _ Le.refl st (by simp only [RRep, Rep]) h)
theorem E.bl {b j} (h : Q own (.d (.bl b))) : E X F (.Constant (.bool b) j pos) Q own ρ := .mk fun ls σ H st sr Qv k => pe_bl.to (k _ _ _ (.d (.bl b)) _ Le.refl st (by simp only [RRep, Rep]) h)
theorem E.non {j} (h : Q own (.d .non)) : E X F (.Constant .none j pos) Q own ρ := .mk fun ls σ H st sr Qv k => pe_non.to (k _ _ _ (.d .non) _ Le.refl st (by simp only [RRep, Rep]) h)
theorem E.str {x j} (h : Q own (.d (.str x))) : E X F (.Constant (.str x) j pos) Q own ρ := .mk fun ls σ H st sr Qv k => pe_str.to (k _ _ _ (.d (.str x)) _ Le.refl st (by simp only [RRep, Rep]) h)
/-- a constant of the module -/
theorem E.globI {x : Str} {i : Int} {t : Tok} (hm : X.mg x = some (.int i t)) (h : Q own (.d (.int i))) (hg : Gl X x := by rfl) (hd : (x == ("__debug__" : Str)) = false := by decide) : E X F (.Name x pos) Q own ρ :=
  .mk fun ls σ H st sr Qv k => (pe_glob (v := .int i) hg hm ⟨t, rfl⟩ hd).to (k _ _ _ (.d (.int i)) _ Le.refl st (by simp only [RRep, Rep]) h)
theorem E.globS {x s : Str} {t : Tok} (hm : X.mg x = some (.str s t)) (h : Q own (.d (.str s))) (hg : Gl X x := by rfl) (hd : (x == ("__debug__" : Str)) = false := by decide) : E X F (.Name x pos) Q own ρ :=
  .mk fun ls σ H st sr Qv k => (pe_glob (v := .str s) hg hm ⟨t, rfl⟩ hd).to (k _ _ _ (.d (.str s)) _ Le.refl st (by simp only [RRep, Rep]) h)
/-- a class or a def of the module -/
theorem E.globR {x : Str} {p : Addr} (hm : X.mg x = some (.ref p)) (h : Q own (.d (.ref p))) (hg : Gl X x := by rfl) (hd : (x == ("__debug__" : Str)) = false := by decide) : E X F (.Name x pos) Q own ρ :=
  .mk fun ls σ H st sr Qv k => (pe_glob (v := .ref p) hg hm rfl hd).to (k _ _ _ (.d (.ref p)) _ Le.refl st (by simp only [RRep, Rep]) h)
/-- a built-in class by its name -/
theorem E.bty {x : Str} {n : String} (hm : X.mg x = none) (hv : bootBuiltins x = some (.type n)) (h : Q own (.d (.ty n))) (hg : Gl X x := by rfl) (hn : x ≠ "__name__" := by decide) (hd : (x == ("__debug__" : Str)) = false := by decide) : E X F (.Name x pos) Q own ρ :=
  .mk fun ls σ H st sr Qv k => (pe_bltn (v := .ty n) hg hm hv rfl hn hd).to (k _ _ _ (.d (.ty n)) _ Le.refl st (by simp only [RRep, Rep]) h)
theorem E.bin {op : Operator} (h : E X F a (fun o x => E X F b (fun o2 y => O2 X F (.bin op) x y Q o2) o ρ) own ρ) : E X F (.BinOp a op b pos) Q own ρ := by
  constructor
  intro ls σ H st sr Qv k
  refine (pe_op opr_wop pe_we pe_we).to ?_
  refine h ls σ H st sr _ fun ls1 own1 H1 x u l1 s1 rx hb => ?_
  refine hb ls1 σ H1 s1 (sr.up l1.pre l1.same) _ fun ls2 own2 H2 y v l2 s2 ry ho => ?_
  exact ho ls2 H2 u v s2 (rx.up l2.pre l2.same) ry Qv fun _ _ _ _ _ l3 => k _ _ _ _ _ ((l1.trans l2).trans l3)
theorem E.un {op : UnaryOp} (h : E X F a (fun o x => O1 X F op x Q o) own ρ) : E X F (.UnaryOp op a pos) Q own ρ := by
  constructor
  intro ls σ H st sr Qv k
  refine (pe_un unr_wun pe_we).to ?_
  refine h ls σ H st sr _ fun ls1 own1 H1 x u l1 s1 rx ho => ?_
  exact ho ls1 H1 u s1 rx Qv fun _ _ _ _ _ l3 => k _ _ _ _ _ (l1.trans l3)
/-- one comparison as a value -/
theorem E.cmp {op : CmpOp} (h : E X F a (fun o x => E X F b (fun o2 y => O2 X F (.cmp op) x y Q o2) o ρ) own ρ) (hm : behindInMarks op b = false := by first | exact nomark _ | rfl | with_unfolding_all rfl) : E X F (.Compare a [op] [b] pos) Q own ρ := by
  constructor
  intro ls σ H st sr Qv k
  refine (pe_cmpR opr_wop pe_we pe_we hm).to ?_
  refine h ls σ H st sr _ fun ls1 own1 H1 x u l1 s1 rx hb => ?_
  refine hb ls1 σ H1 s1 (sr.up l1.pre l1.same) _ fun ls2 own2 H2 y v l2 s2 ry ho => ?_
  exact ho ls2 H2 u v s2 (rx.up l2.pre l2.same) ry Qv fun _ _ _ _ _ l3 => k _ _ _ _ _ ((l1.trans l2).trans l3)
theorem T.cmp {op : CmpOp} (h : E X F a (fun o x => E X F b (fun o2 y => O2 X F (.cmp op) x y (fun o3 z => ∃ k, z = .d (.bl k) ∧ QT o3 k) o2) o ρ) own ρ) (hm : behindInMarks op b = false := by first | exact nomark _ | rfl | with_unfolding_all rfl) : T X F (.Compare a [op] [b] pos) QT own ρ := by
  constructor
  intro ls σ H st sr Qv k
  refine (pt_cmpR opr_wop pe_we pe_we hm).to ?_
  refine h ls σ H st sr _ fun ls1 own1 H1 x u l1 s1 rx hb => ?_
  refine hb ls1 σ H1 s1 (sr.up l1.pre l1.same) _ fun ls2 own2 H2 y v l2 s2 ry ho => ?_
  refine ho ls2 H2 u v s2 (rx.up l2.pre l2.same) ry _ fun _ _ _ r w l3 s3 rr ⟨kk, ez, q⟩ => ?_
  subst ez
  have rr' : w = V.bl kk := by simpa only [RRep, Rep] using rr
  exact ⟨kk, rr', k _ _ _ kk ((l1.trans l2).trans l3) s3 q⟩
/-- a test that is a value's truth -/
theorem T.truth (h : E X F a (fun o x => Tr X F x QT o) own ρ) (he : ∀ whole, isTrue a X.env whole = (do let v ← whole; standAt a.pos; holding [v] (truthy v)) := by intro _; rfl) : T X F a QT own ρ := by
  constructor
  intro ls σ H st sr Qv k
  refine (pt_truthR pe_we tru_w he).to ?_
  refine h ls σ H st sr _ fun ls1 own1 H1 x u l1 s1 rx ho => ?_
  exact ho ls1 H1 u s1 rx Qv fun _ _ _ _ l3 => k _ _ _ _ (l1.trans l3)
theorem Tr.bl {b : Bool} (h : QT own b) : Tr X F (.d (.bl b)) QT own := .mk fun ls H u st rx Qb k => by
  have e : u = V.bl b := by simpa only [RRep, Rep] using rx
  subst e
  exact fun pins σ s v I rv => by cases rv; exact wpAny_truthy_bool ⟨H, I, k _ _ _ b Le.refl st h⟩
theorem T.not (h : T X F a (fun o b => QT o (!b)) own ρ) : T X F (.UnaryOp .Not a pos) QT own ρ := .mk fun ls σ H st sr Qb k =>
  (pt_not pt_wt).to (h ls σ H st sr _ fun _ _ _ b l s q => k _ _ _ _ l s q)
theorem Tw.t (h : Tw X F a QT own ρ) : T X F a QT own ρ := .mk fun ls σ H st sr Qb k => (PW.pt pw_ww).to (h ls σ H st sr Qb k)
theorem Tw.and1 (h : T X F a QT own ρ) : Tw X F (.BoolOp .And [a] pos) QT own ρ := .mk fun ls σ H st sr Qb k => (pw_and1 pt_wt).to (h ls σ H st sr Qb k)
theorem Tw.or1 (h : T X F a QT own ρ) : Tw X F (.BoolOp .Or [a] pos) QT own ρ := .mk fun ls σ H st sr Qb k => (pw_or1 pt_wt).to (h ls σ H st sr Qb k)
theorem Tw.and (h : T X F a (fun o k => if k = true then Tw X F (.BoolOp .And (b :: es) pos) QT o ρ else QT o false) own ρ) : Tw X F (.BoolOp .And (a :: b :: es) pos) QT own ρ := by
  constructor
  intro ls σ H st sr Qb k
  refine (pw_and pt_wt pw_ww).to ?_
  refine h ls σ H st sr _ fun ls1 own1 H1 kb l1 s1 q => ?_
  cases kb with
  | true =>
    refine iteT ?_
    exact (show Tw X F _ QT own1 ρ from q) ls1 σ H1 s1 (sr.up l1.pre l1.same) Qb fun _ _ _ _ l3 => k _ _ _ _ (l1.trans l3)
  | false => exact iteF (k _ _ _ _ l1 s1 q)
theorem Tw.or (h : T X F a (fun o k => if k = true then QT o true else Tw X F (.BoolOp .Or (b :: es) pos) QT o ρ) own ρ) : Tw X F (.BoolOp .Or (a :: b :: es) pos) QT own ρ := by
  constructor
  intro ls σ H st sr Qb k
  refine (pw_or pt_wt pw_ww).to ?_
  refine h ls σ H st sr _ fun ls1 own1 H1 kb l1 s1 q => ?_
  cases kb with
  | false =>
    refine iteF ?_
    exact (show Tw X F _ QT own1 ρ from q) ls1 σ H1 s1 (sr.up l1.pre l1.same) Qb fun _ _ _ _ l3 => k _ _ _ _ (l1.trans l3)
  | true => exact iteT (k _ _ _ _ l1 s1 q)
/-- a and b, a or b, not a as values, all but the last a truth value -/
theorem E.one {op} (h : E X F a Q own ρ) : E X F (.BoolOp op [a] pos) Q own ρ := .mk fun ls σ H st sr Qv k => (pe_one pe_we).to (h ls σ H st sr Qv k)
theorem E.and (h : E X F a (fun o x => ∃ k, x = .d (.bl k) ∧ if k = true then E X F (.BoolOp .And (b :: es) pos) Q o ρ else Q o (.d (.bl false))) own ρ) : E X F (.BoolOp .And (a :: b :: es) pos) Q own ρ := by
  constructor
  intro ls σ H st sr Qv k
  refine (pe_and pe_we pe_we).to ?_
  refine h ls σ H st sr _ fun ls1 own1 H1 x u l1 s1 rx ⟨kb, ex, q⟩ => ?_
  subst ex
  refine ⟨kb, by simpa only [RRep, Rep] using rx, ?_⟩
  cases kb with
  | true =>
    refine iteT ?_
    exact (show E X F _ Q own1 ρ from q) ls1 σ H1 s1 (sr.up l1.pre l1.same) Qv fun _ _ _ _ _ l3 => k _ _ _ _ _ (l1.trans l3)
  | false => exact iteF (k _ _ _ (.d (.bl false)) _ l1 s1 (by simp only [RRep, Rep]) q)
theorem E.or (h : E X F a (fun o x => ∃ k, x = .d (.bl k) ∧ if k = true then Q o (.d (.bl true)) else E X F (.BoolOp .Or (b :: es) pos) Q o ρ) own ρ) : E X F (.BoolOp .Or (a :: b :: es) pos) Q own ρ := by
  constructor
  intro ls σ H st sr Qv k
  refine (pe_or pe_we pe_we).to ?_
  refine h ls σ H st sr _ fun ls1 own1 H1 x u l1 s1 rx ⟨kb, ex, q⟩ => ?_
  subst ex
  refine ⟨kb, by simpa only [RRep, Rep] using rx, ?_⟩
  cases kb with
  | false =>
    refine iteF ?_
    exact (show E X F _ Q own1 ρ from q) ls1 σ H1 s1 (sr.up l1.pre l1.same) Qv fun _ _ _ _ _ l3 => k _ _ _ _ _ (l1.trans l3)
  | true => exact iteT (k _ _ _ (.d (.bl true)) _ l1 s1 (by simp only [RRep, Rep]) q)
theorem E.not (h : E X F a (fun o x => ∃ k, x = .d (.bl k) ∧ Q o (.d (.bl (!k)))) own ρ) : E X F (.UnaryOp .Not a pos) Q own ρ := by
  constructor
  intro ls σ H st sr Qv k
  refine (pe_not pe_we).to ?_
  refine h ls σ H st sr _ fun ls1 own1 H1 x u l1 s1 rx ⟨kb, ex, q⟩ => ?_
  subst ex
  exact ⟨kb, by simpa only [RRep, Rep] using rx, k _ _ _ (.d (.bl (!kb))) _ l1 s1 (by simp only [RRep, Rep]) q⟩
theorem E.ifExp (h : T X F c (fun o k => if k = true then E X F a Q o ρ else E X F b Q o ρ) own ρ) : E X F (.IfExp c a b pos) Q own ρ := by
  constructor
  intro ls σ H st sr Qv k
  refine (pe_ifExp pt_wt pe_we pe_we).to ?_
  refine h ls σ H st sr _ fun ls1 own1 H1 kb l1 s1 q => ?_
  cases kb with
  | true => exact iteT ((show E X F a Q own1 ρ from q) ls1 σ H1 s1 (sr.up l1.pre l1.same) Qv fun _ _ _ _ _ l3 => k _ _ _ _ _ (l1.trans l3))
  | false => exact iteF ((show E X F b Q own1 ρ from q) ls1 σ H1 s1 (sr.up l1.pre l1.same) Qv fun _ _ _ _ _ l3 => k _ _ _ _ _ (l1.trans l3))

/-! ### argument lists, displays -/
theorem A.nil (h : QA own []) : A X F [] QA own ρ := .mk fun ls σ H st sr Qv k => pa_nil.to (k _ _ _ [] [] Le.refl st .nil h)
theorem A.cons (h : E X F e (fun o r => A X F es (fun o2 rs => QA o2 (r :: rs)) o ρ) own ρ) (hs : starEach (e :: es) X.env = (false, eval e X.env) :: starEach es X.env := by rfl) : A X F (e :: es) QA own ρ := by
  constructor
  intro ls σ H st sr Qv k
  refine (pa_cons pe_we pa_wa hs).to ?_
  refine h ls σ H st sr _ fun ls1 own1 H1 x u l1 s1 rx hb => ?_
  exact hb ls1 σ H1 s1 (sr.up l1.pre l1.same) _ fun ls2 own2 H2 rs vs l2 s2 rr q => k _ _ _ (x :: rs) (u :: vs) (l1.trans l2) s2 (.cons (rx.up l2.pre l2.same) rr) q
theorem E.tup {k0} (h : A X F es (fun o rs => ∃ ds : List D, rs = ds.map R.d ∧ ds.length ≤ sizeLine ∧ Q o (.d (.tup ds))) own ρ) : E X F (.Tuple es k0 pos) Q own ρ := by
  constructor
  intro ls σ H st sr Qv k
  refine (pe_tup pa_wa).to ?_
  refine h ls σ H st sr _ fun ls1 own1 H1 rs vs l1 s1 rr ⟨ds, er, hl, q⟩ => ?_
  subst er
  have rd := RReps.toD rr
  refine ⟨by rw [← rd.length]; exact hl, fun p hp => ?_⟩
  refine k _ _ _ (.d (.tup ds)) _ (l1.trans (Le.grow (same_new hp))) (s1.grow (same_new hp)) ?_ q
  simp only [RRep, Rep]
  exact ⟨p, vs, rfl, s1.seen hp, Reps.mono (msk_mono (same_new hp)) rd⟩
theorem E.lst (h : A X F es (fun o rs => ∃ ds : List D, rs = ds.map R.d ∧ ds.length ≤ sizeLine ∧ Q o (.d (.lst ds))) own ρ) : E X F (.List es pos) Q own ρ := by
  constructor
  intro ls σ H st sr Qv k
  refine (pe_lst pa_wa).to ?_
  refine h ls σ H st sr _ fun ls1 own1 H1 rs vs l1 s1 rr ⟨ds, er, hl, q⟩ => ?_
  subst er
  have rd := RReps.toD rr
  refine ⟨by rw [← rd.length]; exact hl, fun p hp => ?_⟩
  refine k _ _ _ (.d (.lst ds)) _ (l1.trans (Le.grow (same_new hp))) (s1.grow (same_new hp)) ?_ q
  simp only [RRep, Rep]
  exact ⟨p, vs, rfl, s1.seen hp, Reps.mono (msk_mono (same_new hp)) rd⟩

/-! ### calls of built-ins -/
theorem E.callB {x : Str} {p : Pos} {id : String} (hm : X.mg x = none) (hv : bootBuiltins x = some (.builtin id)) (h : A X F (e :: es) (fun o rs => Cl X F (.builtin id) rs Q o) own ρ) (hg : Gl X x := by rfl) (hn : x ≠ "__name__" := by decide) (hdb : (x == ("__debug__" : Str)) = false := by decide)
    (he : starEach (e :: es) X.env = (false, eval e X.env) :: starEach es X.env := by rfl) (hpl : (backTo pos (starEach es X.env)).any (·.1) = false := by rfl) : E X F (.Call (.Name x p) (e :: es) [] pos) Q own ρ := by
  constructor
  intro ls σ H st sr Qv k
  refine (pe_callB callr_w hg hm hv pa_wa hn hdb he hpl).to ?_
  exact h ls σ H st sr _ fun ls1 own1 H1 rs vs l1 s1 rr q => q ls1 H1 vs s1 rr Qv fun _ _ _ _ _ l3 => k _ _ _ _ _ (l1.trans l3)
theorem E.callTy {x : Str} {p : Pos} {n : String} (hm : X.mg x = none) (hv : bootBuiltins x = some (.type n)) (h : A X F (e :: es) (fun o rs => Cl X F (.type n) rs Q o) own ρ) (hg : Gl X x := by rfl) (hn : x ≠ "__name__" := by decide) (hdb : (x == ("__debug__" : Str)) = false := by decide)
    (he : starEach (e :: es) X.env = (false, eval e X.env) :: starEach es X.env := by rfl) (hpl : (backTo pos (starEach es X.env)).any (·.1) = false := by rfl) : E X F (.Call (.Name x p) (e :: es) [] pos) Q own ρ := by
  constructor
  intro ls σ H st sr Qv k
  refine (pe_callTy callr_w hg hm hv pa_wa hn hdb he hpl).to ?_
  exact h ls σ H st sr _ fun ls1 own1 H1 rs vs l1 s1 rr q => q ls1 H1 vs s1 rr Qv fun _ _ _ _ _ l3 => k _ _ _ _ _ (l1.trans l3)
/-- a built-in function that stands at a module's name -/
theorem E.callG {x : Str} {p : Pos} {id : String} (hm : X.mg x = some (.builtin id)) (h : A X F (e :: es) (fun o rs => Cl X F (.builtin id) rs Q o) own ρ) (hg : Gl X x := by rfl) (hdb : (x == ("__debug__" : Str)) = false := by decide)
    (he : starEach (e :: es) X.env = (false, eval e X.env) :: starEach es X.env := by rfl) (hpl : (backTo pos (starEach es X.env)).any (·.1) = false := by rfl) : E X F (.Call (.Name x p) (e :: es) [] pos) Q own ρ := by
  constructor
  intro ls σ H st sr Qv k
  refine (pe_callBfun callr_w hg hm pa_wa hdb he hpl).to ?_
  exact h ls σ H st sr _ fun ls1 own1 H1 rs vs l1 s1 rr q => q ls1 H1 vs s1 rr Qv fun _ _ _ _ _ l3 => k _ _ _ _ _ (l1.trans l3)

/-! ### statements -/
variable {P : Po} {st : Stmt} {sts rest : List Stmt}
theorem W.nil (h : P.nx own ρ) : W X F [] P own ρ := .mk fun ls σ H st sr De k => pss_nil.to (k.nx _ _ _ ρ σ Le.refl st sr h)
theorem W.cons (h : W1 X F st { P with nx := W X F rest P } own ρ) : W X F (st :: rest) P own ρ := by
  constructor
  intro ls σ H s0 sr De k
  refine (pss_cons ps_ws1 pss_ws).to ?_
  refine h ls σ H s0 sr { De with nx := ws X rest De } ⟨fun ls' own' H' ρ' σ' l s r q => ?_, fun _ _ _ _ _ l s r q => k.rt _ _ _ _ _ l s r q, fun _ _ _ _ _ l s r q => k.bk _ _ _ _ _ l s r q, fun _ _ _ _ _ l s r q => k.ct _ _ _ _ _ l s r q⟩
  exact (show W X F rest P own' ρ' from q) ls' σ' H' s r De (k.up l)
theorem W.one (h : W1 X F st P own ρ) : W X F [st] P own ρ := .mk fun ls σ H s0 sr De k => (pss_one ps_ws1).to (h ls σ H s0 sr De k)
theorem W1.pass (h : P.nx own ρ) : W1 X F (.Pass pos) P own ρ := .mk fun ls σ H st sr De k => ps_pass.to (k.nx _ _ _ ρ σ Le.refl st sr h)
theorem W1.brk (h : P.bk own ρ) : W1 X F (.Break pos) P own ρ := .mk fun ls σ H st sr De k => ps_break.to (k.bk _ _ _ ρ σ Le.refl st sr h)
theorem W1.cont (h : P.ct own ρ) : W1 X F (.Continue pos) P own ρ := .mk fun ls σ H st sr De k => ps_continue.to (k.ct _ _ _ ρ σ Le.refl st sr h)
theorem W1.expr (h : E X F e (fun o _ => P.nx o ρ) own ρ) (hs : swapsWith e none pos.line X.env = pure false := by rfl) : W1 X F (.Expr e pos) P own ρ := by
  constructor
  intro ls σ H s0 sr De k
  refine (ps_expr pe_we hs).to ?_
  exact h ls σ H s0 sr _ fun _ _ _ _ _ l s r q => k.nx _ _ _ ρ σ l s (sr.up l.pre l.same) q
theorem W1.ret (h : E X F e P.rt own ρ) : W1 X F (.Return (some e) pos) P own ρ := by
  constructor
  intro ls σ H s0 sr De k
  refine (ps_ret pe_we).to ?_
  exact h ls σ H s0 sr _ fun _ _ _ _ _ l s r q => k.rt _ _ _ _ _ l s r q
theorem W1.retN (h : P.rt own (.d .non)) : W1 X F (.Return none pos) P own ρ := .mk fun ls σ H s0 sr De k => ps_retN.to (k.rt _ _ _ (.d .non) _ Le.refl s0 (by simp only [RRep, Rep]) h)
theorem W1.iff {sa sb : List Stmt} (h : T X F c (fun o k => if k = true then W X F sa P o ρ else W X F sb P o ρ) own ρ) : W1 X F (.If c sa sb pos) P own ρ := by
  constructor
  intro ls σ H s0 sr De k
  refine (ps_if pt_wt pss_ws pss_ws).to ?_
  refine h ls σ H s0 sr _ fun ls1 own1 H1 kb l1 s1 q => ?_
  cases kb with
  | true => exact iteT ((show W X F sa P own1 ρ from q) ls1 σ H1 s1 (sr.up l1.pre l1.same) De (k.up l1))
  | false => exact iteF ((show W X F sb P own1 ρ from q) ls1 σ H1 s1 (sr.up l1.pre l1.same) De (k.up l1))
/-- x = e -/
theorem W1.set (i : Nat) {x : Str} {pos' : Pos} (h : E X F e (fun o r => P.nx o (ρ.set i (some r))) own ρ) (hN : X.N.Nodup) (hi : X.N[i]? = some x := by rfl) (hx : Loc X.env.scope x := by first | exact Or.inl rfl | exact Or.inr rfl) (hs : swapsWith e (some (.Name x pos')) pos.line X.env = pure false := by rfl) (hf : X.fn x = true ∨ X.env.scope.names.lookup x = some .local := by first | exact .inl rfl | exact .inr rfl | assumption) :
    W1 X F (.Assign [.Name x pos'] e pos) P own ρ := by
  constructor
  intro ls σ H s0 sr De k
  refine (ps_set hN hi hx pe_we hs hf).to ?_
  exact h ls σ H s0 sr _ fun _ _ _ r v l s rr q => k.nx _ _ _ _ _ l s (SRep.set rr i (sr.up l.pre l.same)) q
end
end DL

namespace DL
open PySem PySem.Spec PyProof.Rows L2
section
variable {X : Cx} {F : Fm} {own : List Cell} {ρ : Ro} {Q : QE} {QA : QA} {QT : QT} {i j : Int}

/-! ### ints -/
theorem rr_int {K ls G v} (h : RRep K ls G (.d (.int i)) v) : v = .int i := by simpa only [RRep, Rep] using h
theorem rr_str {K ls G v} {s : Str} (h : RRep K ls G (.d (.str s)) v) : v = .str s := by simpa only [RRep, Rep] using h
theorem rr_bl {K ls G v} {b : Bool} (h : RRep K ls G (.d (.bl b)) v) : v = .bl b := by simpa only [RRep, Rep] using h
theorem rr_non {K ls G v} (h : RRep K ls G (.d .non) v) : v = .non := by simpa only [RRep, Rep] using h
theorem rr_ty {K ls G v} {n : String} (h : RRep K ls G (.d (.ty n)) v) : v = .ty n := by simpa only [RRep, Rep] using h
theorem rr_ref {K ls G v} {n : Addr} (h : RRep K ls G (.d (.ref n)) v) : v = .ref n := by simpa only [RRep, Rep] using h
theorem ir_int {K ls G} : RRep K ls G (.d (.int i)) (.int i) := by simp only [RRep, Rep]
theorem ir_bl {K ls G} {b : Bool} : RRep K ls G (.d (.bl b)) (.bl b) := by simp only [RRep, Rep]
theorem ir_str {K ls G} {s : Str} : RRep K ls G (.d (.str s)) (.str s) := by simp only [RRep, Rep]
theorem ir_non {K ls G} : RRep K ls G (.d .non) .non := by simp only [RRep, Rep]
theorem O2.ofI {f : Opk} {C : Int → Int → Prop} {g : Int → Int → Int} (p : OpR X f.f (rI C fun i j => .int (g i j))) (hc : C i j) (h : Q own (.d (.int (g i j)))) : O2 X F f (.d (.int i)) (.d (.int j)) Q own := by
  constructor
  intro ls H u v st rx ry Qv k
  cases rr_int rx
  cases rr_int ry
  exact p.to ⟨i, j, rfl, rfl, hc, k _ _ _ _ _ Le.refl st ir_int h⟩
theorem O2.ofI0 {f : Opk} {g : Int → Int → Int} (p : OpR X f.f (rI0 fun i j => .int (g i j))) (h : Q own (.d (.int (g i j)))) : O2 X F f (.d (.int i)) (.d (.int j)) Q own := by
  constructor
  intro ls H u v st rx ry Qv k
  cases rr_int rx
  cases rr_int ry
  exact p.to ⟨i, j, rfl, rfl, k _ _ _ _ _ Le.refl st ir_int h⟩
theorem O2.ofB {f : Opk} {g : Int → Int → Bool} (p : OpR X f.f (rI0 fun i j => .bl (g i j))) (h : Q own (.d (.bl (g i j)))) : O2 X F f (.d (.int i)) (.d (.int j)) Q own := by
  constructor
  intro ls H u v st rx ry Qv k
  cases rr_int rx
  cases rr_int ry
  exact p.to ⟨i, j, rfl, rfl, k _ _ _ _ _ Le.refl st ir_bl h⟩
theorem O2.add (h : Q own (.d (.int (i + j)))) : O2 X F (.bin .Add) (.d (.int i)) (.d (.int j)) Q own := .ofI0 op_add h
theorem O2.sub (h : Q own (.d (.int (i - j)))) : O2 X F (.bin .Sub) (.d (.int i)) (.d (.int j)) Q own := .ofI0 op_sub h
theorem O2.mul (hc : CMulX i j) (h : Q own (.d (.int (i * j)))) : O2 X F (.bin .Mult) (.d (.int i)) (.d (.int j)) Q own := .ofI op_mulX hc h
/-- one factor is small -/
theorem O2.mulS (hc : CMul i j) (h : Q own (.d (.int (i * j)))) : O2 X F (.bin .Mult) (.d (.int i)) (.d (.int j)) Q own := .ofI op_mul hc h
theorem O2.mod (hc : 0 < j) (h : Q own (.d (.int (i % j)))) : O2 X F (.bin .Mod) (.d (.int i)) (.d (.int j)) Q own := .ofI (C := fun _ j => 0 < j) op_mod hc h
theorem O2.modN (hc : j ≠ 0) (h : Q own (.d (.int (i.fmod j)))) : O2 X F (.bin .Mod) (.d (.int i)) (.d (.int j)) Q own := .ofI (C := fun _ j => j ≠ 0) op_modN hc h
theorem O2.fdiv (hc : CDiv i j) (h : Q own (.d (.int (i / j)))) : O2 X F (.bin .FloorDiv) (.d (.int i)) (.d (.int j)) Q own := .ofI op_fdiv hc h
theorem O2.fdivW (hc : CDivW i j) (h : Q own (.d (.int (i / j)))) : O2 X F (.bin .FloorDiv) (.d (.int i)) (.d (.int j)) Q own := .ofI op_fdivW hc h
def CDivA (_ j : Int) : Prop := j ≠ 0 ∧ j.natAbs < 2 ^ 9000
theorem op_fdivA : OpR X (binaryOp .FloorDiv) (rI CDivA fun i j => .int (i.fdiv j)) := opI fun i j _ _ _ _ _ hc q => floordiv_int hc.1 q (.inl (PyProof.noPylong_of_log2 (by
  have h0 : j.natAbs ≠ 0 := by have := hc.1; omega
  exact (Nat.log2_lt h0).mpr hc.2)))
theorem O2.fdivA (hc : CDivA i j) (h : Q own (.d (.int (i.fdiv j)))) : O2 X F (.bin .FloorDiv) (.d (.int i)) (.d (.int j)) Q own := .ofI op_fdivA hc h
theorem O2.pow (hc : CPow i j) (h : Q own (.d (.int (i ^ j.toNat)))) : O2 X F (.bin .Pow) (.d (.int i)) (.d (.int j)) Q own := .ofI op_pow hc h
theorem O2.lt (h : Q own (.d (.bl (decide (i < j))))) : O2 X F (.cmp .Lt) (.d (.int i)) (.d (.int j)) Q own := .ofB op_lt h
theorem O2.le (h : Q own (.d (.bl (decide (i ≤ j))))) : O2 X F (.cmp .LtE) (.d (.int i)) (.d (.int j)) Q own := .ofB op_le h
theorem O2.gt (h : Q own (.d (.bl (decide (j < i))))) : O2 X F (.cmp .Gt) (.d (.int i)) (.d (.int j)) Q own := .ofB op_gt h
theorem O2.ge (h : Q own (.d (.bl (decide (j ≤ i))))) : O2 X F (.cmp .GtE) (.d (.int i)) (.d (.int j)) Q own := .ofB op_ge h
theorem dV_int : decide (V.int i = V.int j) = decide (i = j) := by
  by_cases e : i = j
  · subst e; simp
  · rw [decide_eq_false e, decide_eq_false]; exact fun z => e (by injection z)
theorem dV_bl {a b : Bool} : decide (V.bl a = V.bl b) = (a == b) := by cases a <;> cases b <;> rfl
theorem dV_str {a b : Str} : decide (V.str a = V.str b) = decide (a = b) := by
  by_cases e : a = b
  · subst e; simp
  · rw [decide_eq_false e, decide_eq_false]; exact fun z => e (by injection z)
theorem O2.eq (h : Q own (.d (.bl (decide (i = j))))) : O2 X F (.cmp .Eq) (.d (.int i)) (.d (.int j)) Q own := by
  constructor
  intro ls H u v st rx ry Qv k
  cases rr_int rx
  cases rr_int ry
  exact op_eq.to ⟨rfl, k _ _ _ (.d (.bl _)) _ Le.refl st ir_bl (by rw [dV_int]; exact h)⟩
theorem O2.ne (h : Q own (.d (.bl (!decide (i = j))))) : O2 X F (.cmp .NotEq) (.d (.int i)) (.d (.int j)) Q own := by
  constructor
  intro ls H u v st rx ry Qv k
  cases rr_int rx
  cases rr_int ry
  exact op_ne.to ⟨rfl, k _ _ _ (.d (.bl _)) _ Le.refl st ir_bl (by rw [dV_int]; exact h)⟩
theorem O2.eqB {a b : Bool} (h : Q own (.d (.bl (a == b)))) : O2 X F (.cmp .Eq) (.d (.bl a)) (.d (.bl b)) Q own := by
  constructor
  intro ls H u v st rx ry Qv k
  cases rr_bl rx
  cases rr_bl ry
  exact op_eq.to ⟨rfl, k _ _ _ (.d (.bl _)) _ Le.refl st ir_bl (by rw [dV_bl]; exact h)⟩
theorem O2.neB {a b : Bool} (h : Q own (.d (.bl (!(a == b))))) : O2 X F (.cmp .NotEq) (.d (.bl a)) (.d (.bl b)) Q own := by
  constructor
  intro ls H u v st rx ry Qv k
  cases rr_bl rx
  cases rr_bl ry
  exact op_ne.to ⟨rfl, k _ _ _ (.d (.bl _)) _ Le.refl st ir_bl (by rw [dV_bl]; exact h)⟩
theorem O2.eqS {a b : Str} (h : Q own (.d (.bl (decide (a = b))))) : O2 X F (.cmp .Eq) (.d (.str a)) (.d (.str b)) Q own := by
  constructor
  intro ls H u v st rx ry Qv k
  cases rr_str rx
  cases rr_str ry
  exact op_eq.to ⟨rfl, k _ _ _ (.d (.bl _)) _ Le.refl st ir_bl (by rw [dV_str]; exact h)⟩
theorem O2.neS {a b : Str} (h : Q own (.d (.bl (!decide (a = b))))) : O2 X F (.cmp .NotEq) (.d (.str a)) (.d (.str b)) Q own := by
  constructor
  intro ls H u v st rx ry Qv k
  cases rr_str rx
  cases rr_str ry
  exact op_ne.to ⟨rfl, k _ _ _ (.d (.bl _)) _ Le.refl st ir_bl (by rw [dV_str]; exact h)⟩
theorem O1.neg (h : Q own (.d (.int (-i)))) : O1 X F .USub (.d (.int i)) Q own := by
  constructor
  intro ls H u st rx Qv k
  cases rr_int rx
  exact un_neg.to ⟨i, rfl, k _ _ _ _ _ Le.refl st ir_int h⟩
/-! ### calls of built-ins -/
theorem rrs1 {K ls G} {a : R} {vs : List V} (h : RReps K ls G [a] vs) : ∃ v, vs = [v] ∧ RRep K ls G a v := by
  cases h with
  | cons h t => cases t; exact ⟨_, rfl, h⟩
theorem rrs2 {K ls G} {a b : R} {vs : List V} (h : RReps K ls G [a, b] vs) : ∃ v w, vs = [v, w] ∧ RRep K ls G a v ∧ RRep K ls G b w := by
  cases h with
  | cons h t =>
    obtain ⟨w, rfl, hw⟩ := rrs1 t
    exact ⟨_, _, rfl, h, hw⟩
theorem rrs3 {K ls G} {a b c : R} {vs : List V} (h : RReps K ls G [a, b, c] vs) : ∃ v w z, vs = [v, w, z] ∧ RRep K ls G a v ∧ RRep K ls G b w ∧ RRep K ls G c z := by
  cases h with
  | cons h t =>
    obtain ⟨w, z, rfl, hw, hz⟩ := rrs2 t
    exact ⟨_, _, _, rfl, h, hw, hz⟩
theorem Cl.abs (h : Q own (.d (.int (i.natAbs : Int)))) : Cl X F (.builtin "abs") [.d (.int i)] Q own := by
  constructor
  intro ls H vs st rr Qv k
  obtain ⟨v, rfl, rv⟩ := rrs1 rr
  cases rr_int rv
  refine call_abs.to ⟨i, rfl, k _ _ _ (.d (.int _)) _ Le.refl st ir_int ?_⟩
  have e : (if i < 0 then -i else i) = (i.natAbs : Int) := by split <;> omega
  rw [e]; exact h
theorem Cl.int (h : Q own (.d (.int i))) : Cl X F (.type "int") [.d (.int i)] Q own := by
  constructor
  intro ls H vs st rr Qv k
  obtain ⟨v, rfl, rv⟩ := rrs1 rr
  cases rr_int rv
  exact call_int1.to (.inl ⟨i, rfl, k _ _ _ (.d (.int i)) _ Le.refl st ir_int h⟩)
theorem Cl.boolI (h : Q own (.d (.bl (decide (i ≠ 0))))) : Cl X F (.type "bool") [.d (.int i)] Q own := by
  constructor
  intro ls H vs st rr Qv k
  obtain ⟨v, rfl, rv⟩ := rrs1 rr
  cases rr_int rv
  refine call_bool1.to (.inl ⟨i, rfl, k _ _ _ (.d (.bl _)) _ Le.refl st ir_bl ?_⟩)
  have e : (i != 0) = decide (i ≠ 0) := by by_cases z : i = 0 <;> simp [z]
  rw [e]; exact h
theorem Cl.max (hc : X.calm = true) (h : Q own (.d (.int (if i < j then j else i)))) : Cl X F (.builtin "max") [.d (.int i), .d (.int j)] Q own := by
  constructor
  intro ls H vs st rr Qv k
  obtain ⟨v, w, rfl, rv, rw'⟩ := rrs2 rr
  cases rr_int rv
  cases rr_int rw'
  exact (call_max2 hc).to ⟨i, j, rfl, k _ _ _ (.d (.int _)) _ Le.refl st ir_int h⟩
theorem Cl.min (hc : X.calm = true) (h : Q own (.d (.int (if j < i then j else i)))) : Cl X F (.builtin "min") [.d (.int i), .d (.int j)] Q own := by
  constructor
  intro ls H vs st rr Qv k
  obtain ⟨v, w, rfl, rv, rw'⟩ := rrs2 rr
  cases rr_int rv
  cases rr_int rw'
  exact (call_min2 hc).to ⟨i, j, rfl, k _ _ _ (.d (.int _)) _ Le.refl st ir_int h⟩
theorem Cl.gcd (h : Q own (.d (.int ((Nat.gcd i.natAbs j.natAbs : Nat) : Int)))) : Cl X F (.builtin "math.gcd") [.d (.int i), .d (.int j)] Q own := by
  constructor
  intro ls H vs st rr Qv k
  obtain ⟨v, w, rfl, rv, rw'⟩ := rrs2 rr
  cases rr_int rv
  cases rr_int rw'
  exact cr_gcd.to ⟨i, j, rfl, k _ _ _ (.d (.int _)) _ Le.refl st ir_int h⟩
theorem lst_rr {K ls G v} {ds : List D} (h : RRep K ls G (.d (.lst ds)) v) : ∃ p xs, v = .ref p ∧ G p = some (.lst xs) ∧ Reps K G ds xs := by simpa only [RRep, Rep] using h
theorem tup_rr {K ls G v} {ds : List D} (h : RRep K ls G (.d (.tup ds)) v) : ∃ p xs, v = .ref p ∧ SqT K G p xs ∧ Reps K G ds xs := by
  simp only [RRep, Rep] at h
  obtain ⟨p, xs, e, h1, h2⟩ := h
  exact ⟨p, xs, e, .inl (.inl h1), h2⟩
theorem tup_rs {K ls G v} {ds : List D} (h : RRep K ls G (.d (.tup ds)) v) : ∃ p xs, v = .ref p ∧ G p = some (.tup xs) ∧ Reps K G ds xs := by simpa only [RRep, Rep] using h
theorem ins_rr {K ls G v} {C : Addr} {ns : List Str} {ds : List D} (h : RRep K ls G (.d (.ins C ns ds)) v) : ∃ p dx xs, v = .ref p ∧ G p = some (.ins C dx (ns.zip xs)) ∧ ns.length = ds.length ∧ Reps K G ds xs := by simpa only [RRep, Rep] using h
theorem sq_h {K : PySem.W.Frag} {S : List Addr} {H : Hp} {p : Addr} {xs : List V} (h : msk S H p = some (.lst xs)) : SqL K H p xs := .inl (.inl (msk_same _ _ _ _ h))
theorem Cl.lenL {ds : List D} (h : Q own (.d (.int ds.length))) : Cl X F (.builtin "len") [.d (.lst ds)] Q own := by
  constructor
  intro ls H vs st rr Qv k
  obtain ⟨v, rfl, rv⟩ := rrs1 rr
  obtain ⟨p, xs, rfl, hs, hr⟩ := lst_rr rv
  refine call_len_seq.to ⟨p, xs, rfl, .inl (sq_h hs), k _ _ _ (.d (.int _)) _ Le.refl st ir_int ?_⟩
  rw [← hr.length]; exact h
theorem Cl.lenT {ds : List D} (h : Q own (.d (.int ds.length))) : Cl X F (.builtin "len") [.d (.tup ds)] Q own := by
  constructor
  intro ls H vs st rr Qv k
  obtain ⟨v, rfl, rv⟩ := rrs1 rr
  obtain ⟨p, xs, rfl, hs, hr⟩ := tup_rr rv
  refine call_len_seq.to ⟨p, xs, rfl, .inr (Same.seqT (msk_same _ _) hs), k _ _ _ (.d (.int _)) _ Le.refl st ir_int ?_⟩
  rw [← hr.length]; exact h
/-- len of a cell that is a list -/
theorem Cl.lenC {n : Nat} {rs : List R} (hc : own[n]? = some (.lst rs)) (h : Q own (.d (.int rs.length))) : Cl X F (.builtin "len") [.c n] Q own := by
  constructor
  intro ls H vs st rr Qv k
  obtain ⟨v, rfl, rv⟩ := rrs1 rr
  obtain ⟨l, hl, rfl⟩ := rv
  obtain ⟨xs, e, q⟩ := st.at_ n l _ hl hc
  refine call_len_seq.to ⟨l, xs, rfl, .inl (.inl (.inl e)), k _ _ _ (.d (.int _)) _ Le.refl st ir_int ?_⟩
  rw [← q.length']; exact h
/-- list(x): a copy -/
theorem Cl.listL {ds : List D} (h : Q own (.d (.lst ds))) : Cl X F (.type "list") [.d (.lst ds)] Q own := by
  constructor
  intro ls H vs st rr Qv k
  obtain ⟨v, rfl, rv⟩ := rrs1 rr
  obtain ⟨p, xs, rfl, hs, hr⟩ := lst_rr rv
  refine call_list_of.to ⟨p, xs, rfl, .inl (sq_h hs), fun l hl => ?_⟩
  refine k _ _ _ (.d (.lst ds)) _ (Le.grow (same_new hl)) (st.grow (same_new hl)) ?_ h
  simp only [RRep, Rep]
  exact ⟨l, xs, rfl, st.seen hl, Reps.mono (msk_mono (same_new hl)) hr⟩
theorem Cl.listT {ds : List D} (h : Q own (.d (.lst ds))) : Cl X F (.type "list") [.d (.tup ds)] Q own := by
  constructor
  intro ls H vs st rr Qv k
  obtain ⟨v, rfl, rv⟩ := rrs1 rr
  obtain ⟨p, xs, rfl, hs, hr⟩ := tup_rr rv
  refine call_list_of.to ⟨p, xs, rfl, .inr (Same.seqT (msk_same _ _) hs), fun l hl => ?_⟩
  refine k _ _ _ (.d (.lst ds)) _ (Le.grow (same_new hl)) (st.grow (same_new hl)) ?_ h
  simp only [RRep, Rep]
  exact ⟨l, xs, rfl, st.seen hl, Reps.mono (msk_mono (same_new hl)) hr⟩
theorem Cl.tupleL {ds : List D} (h : Q own (.d (.tup ds))) : Cl X F (.type "tuple") [.d (.lst ds)] Q own := by
  constructor
  intro ls H vs st rr Qv k
  obtain ⟨v, rfl, rv⟩ := rrs1 rr
  obtain ⟨p, xs, rfl, hs, hr⟩ := lst_rr rv
  refine call_tuple_of.to ⟨p, xs, rfl, .inl ⟨sq_h hs, fun l hl => ?_⟩⟩
  refine k _ _ _ (.d (.tup ds)) _ (Le.grow (same_new hl)) (st.grow (same_new hl)) ?_ h
  simp only [RRep, Rep]
  exact ⟨l, xs, rfl, st.seen hl, Reps.mono (msk_mono (same_new hl)) hr⟩
theorem Cl.tupleT {ds : List D} (h : Q own (.d (.tup ds))) : Cl X F (.type "tuple") [.d (.tup ds)] Q own := by
  constructor
  intro ls H vs st rr Qv k
  obtain ⟨v, rfl, rv⟩ := rrs1 rr
  obtain ⟨p, xs, rfl, hs, hr⟩ := tup_rr rv
  exact call_tuple_of.to ⟨p, xs, rfl, .inr ⟨Same.seqT (msk_same _ _) hs, k _ _ _ (.d (.tup ds)) _ Le.refl st rv h⟩⟩

/-! ### lists and tuples -/
/-- a[i] -/
structure Ix (X : Cx) (F : Fm) (x y : R) (Q : QE) (own : List Cell)  : Prop where
  mk :: (run : ∀ ls H u v, St0 X.K F ls own H → RRep X.K ls (F.g ls own H) x u → RRep X.K ls (F.g ls own H) y v → ∀ Qv : VK, KV' X F ls own H Q Qv → rIx X.K u v H Qv)
instance {X : Cx} {F : Fm} {x y : R} {Q : QE} {own : List Cell}  : CoeFun (Ix X F x y Q own) (fun _ => ∀ ls H u v, St0 X.K F ls own H → RRep X.K ls (F.g ls own H) x u → RRep X.K ls (F.g ls own H) y v → ∀ Qv : VK, KV' X F ls own H Q Qv → rIx X.K u v H Qv) := ⟨Ix.run⟩
theorem E.ix {a b : Expr} {pos : Pos} (h : E X F a (fun o x => E X F b (fun o2 y => Ix X F x y Q o2) o ρ) own ρ) (hs : PlainIx b := by exact fun _ _ => rfl) : E X F (.Subscript a b pos) Q own ρ := by
  constructor
  intro ls σ H st sr Qv k
  refine (pe_ix ix_seq pe_we pe_we hs).to ?_
  refine h ls σ H st sr _ fun ls1 own1 H1 x u l1 s1 rx hb => ?_
  refine hb ls1 σ H1 s1 (sr.up l1.pre l1.same) _ fun ls2 own2 H2 y v l2 s2 ry ho => ?_
  exact ho ls2 H2 u v s2 (rx.up l2.pre l2.same) ry Qv fun _ _ _ _ _ l3 => k _ _ _ _ _ ((l1.trans l2).trans l3)
theorem atI_rep {K : PySem.W.Frag} {G : Hp} {ds : List D} {xs : List V} {d : D} (hr : Reps K G ds xs) (h : atI ds i = some d) : ∃ x, atI xs i = some x ∧ Rep K G d x := by
  unfold atI at h ⊢
  rw [hr.length] at h
  cases e : ixN xs.length i with
  | none => rw [e] at h; cases h
  | some n => rw [e] at h; exact hr.get h
theorem atI_rrep {K : PySem.W.Frag} {ls : List Addr} {G : Hp} {ds : List R} {xs : List V} {d : R} (hr : RReps K ls G ds xs) (h : atI ds i = some d) : ∃ x, atI xs i = some x ∧ RRep K ls G d x := by
  unfold atI at h ⊢
  rw [hr.length'] at h
  cases e : ixN xs.length i with
  | none => rw [e] at h; cases h
  | some n => rw [e] at h; exact hr.get' h
theorem Ix.lst {ds : List D} {d : D} (hi : atI ds i = some d) (h : Q own (.d d)) : Ix X F (.d (.lst ds)) (.d (.int i)) Q own := by
  constructor
  intro ls H u v st rx ry Qv k
  cases rr_int ry
  obtain ⟨p, xs, rfl, hs, hr⟩ := lst_rr rx
  obtain ⟨x, e1, e2⟩ := atI_rep hr hi
  exact .inl ⟨p, xs, i, x, rfl, rfl, sq_h hs, e1, k _ _ _ (.d d) _ Le.refl st e2 h⟩
theorem Ix.tup {ds : List D} {d : D} (hi : atI ds i = some d) (h : Q own (.d d)) : Ix X F (.d (.tup ds)) (.d (.int i)) Q own := by
  constructor
  intro ls H u v st rx ry Qv k
  cases rr_int ry
  obtain ⟨p, xs, rfl, hs, hr⟩ := tup_rr rx
  obtain ⟨x, e1, e2⟩ := atI_rep hr hi
  exact .inr (.inl ⟨p, xs, i, x, rfl, rfl, Same.seqT (msk_same _ _) hs, e1, k _ _ _ (.d d) _ Le.refl st e2 h⟩)
theorem Ix.cell {n : Nat} {rs : List R} {d : R} (hc : own[n]? = some (.lst rs)) (hi : atI rs i = some d) (h : Q own d) : Ix X F (.c n) (.d (.int i)) Q own := by
  constructor
  intro ls H u v st rx ry Qv k
  cases rr_int ry
  obtain ⟨l, hl, rfl⟩ := rx
  obtain ⟨xs, e, q⟩ := st.at_ n l _ hl hc
  obtain ⟨x, e1, e2⟩ := atI_rrep q hi
  exact .inl ⟨l, xs, i, x, rfl, rfl, .inl (.inl e), e1, k _ _ _ d _ Le.refl st e2 h⟩
theorem Ix.str {s : Str} {c : Nat} (hz : s.length ≤ sizeLine) (hi : atI s.cps.toList i = some c) (h : Q own (.d (.str ⟨#[c]⟩))) : Ix X F (.d (.str s)) (.d (.int i)) Q own := by
  constructor
  intro ls H u v st rx ry Qv k
  cases rr_int ry
  cases rr_str rx
  exact .inr (.inr ⟨s, i, c, rfl, rfl, hz, hi, k _ _ _ (.d (.str _)) _ Le.refl st ir_str h⟩)
/-- the truth of lists, ints -/
theorem Tr.int (h : QT own (decide (i ≠ 0))) : Tr X F (.d (.int i)) QT own := by
  constructor
  intro ls H u st rx Qb k
  cases rr_int rx
  refine tru_ok.to ⟨_, rfl, k _ _ _ _ Le.refl st ?_⟩
  have e : (i != 0) = decide (i ≠ 0) := by by_cases z : i = 0 <;> simp [z]
  rw [e]; exact h
theorem Tr.lst {ds : List D} (h : QT own (!ds.isEmpty)) : Tr X F (.d (.lst ds)) QT own := by
  constructor
  intro ls H u st rx Qb k
  obtain ⟨p, xs, rfl, hs, hr⟩ := lst_rr rx
  refine tru_ok.to ⟨_, .inl ⟨xs, sq_h hs, rfl⟩, k _ _ _ _ Le.refl st ?_⟩
  have e : xs.isEmpty = ds.isEmpty := by
    have := hr.length
    cases xs <;> cases ds <;> simp at this ⊢
  rw [e]; exact h
/-! ### slices -/
def wpo (X : Cx) (e : Option Expr) : TO := fun σ H Q => ∀ pins s, Inv X pins σ H s → wpAny (model X.prog X.w) X.A (evalPart e X.env) (fun u s' => ∃ o H', Inv X pins σ H' s' ∧ IsPart u o ∧ Q o H') X.xe s
theorem po_w {e : Option Expr} : PO X e (wpo X e) := ⟨fun pins s σ H Q I h => h pins s I⟩
theorem _root_.L2.PO.to {e : Option Expr} {t : TO} {σ : L2.St} {H : Hp} {Q : Option Int → Hp → Prop} (p : PO X e t) (h : t σ H Q) : wpo X e σ H Q := fun pins s I => p.run pins s σ H Q I h
structure PoE (X : Cx) (F : Fm) (e : Option Expr) (Q : List Cell → Option Int → Prop) (own : List Cell) (ρ : Ro)  : Prop where
  mk :: (run : ∀ ls σ H, St0 X.K F ls own H → SRep X.K ls (F.g ls own H) ρ σ → ∀ Qo : Option Int → Hp → Prop,
    (∀ ls' own' H' b, Le F ls own H ls' own' H' → St0 X.K F ls' own' H' → Q own' b → Qo b H') → wpo X e σ H Qo)
instance {X : Cx} {F : Fm} {e : Option Expr} {Q : List Cell → Option Int → Prop} {own : List Cell} {ρ : Ro}  : CoeFun (PoE X F e Q own ρ) (fun _ => ∀ ls σ H, St0 X.K F ls own H → SRep X.K ls (F.g ls own H) ρ σ → ∀ Qo : Option Int → Hp → Prop,
    (∀ ls' own' H' b, Le F ls own H ls' own' H' → St0 X.K F ls' own' H' → Q own' b → Qo b H') → wpo X e σ H Qo) := ⟨PoE.run⟩
theorem PoE.none {Q : List Cell → Option Int → Prop} (h : Q own none) : PoE X F none Q own ρ := .mk fun ls σ H st sr Qo k => po_none.to (k _ _ _ _ Le.refl st h)
theorem PoE.some {e : Expr} {Q : List Cell → Option Int → Prop} (h : E X F e (fun o r => ∃ i, r = .d (.int i) ∧ Q o (some i)) own ρ) : PoE X F (some e) Q own ρ := by
  constructor
  intro ls σ H st sr Qo k
  refine (po_some pe_we).to ?_
  refine h ls σ H st sr _ fun ls1 own1 H1 x u l1 s1 rx ⟨i, ex, q⟩ => ?_
  subst ex
  cases rr_int rx
  exact ⟨i, rfl, k _ _ _ _ l1 s1 q⟩
def cutD (xs : List D) (lo hi : Option Int) : List D := (xs.drop (HT.sIx xs.length 0 lo)).take (HT.sIx xs.length xs.length hi - HT.sIx xs.length 0 lo)
theorem cut_rep {K : PySem.W.Frag} {G : Hp} {ds : List D} {xs : List V} {lo hi : Option Int} (hr : Reps K G ds xs) : Reps K G (cutD ds lo hi) (cutV xs lo hi) := by
  unfold cutD cutV
  rw [← hr.length]
  exact (hr.drop _).take _
def rSlA (K : PySem.W.Frag) : V → Option Int → Option Int → Hp → VK → Prop := fun x lo hi H Q => rSlL K x lo hi H Q ∨ (fun x lo hi H Q => (∃ z, x = .str z ∧ z.length ≤ sizeLine ∧ Q (.str (cutS z lo hi)) H) ∨ rSlT K x lo hi H Q) x lo hi H Q
theorem sl_any : SlR X (rSlA X.K) := sl_list.or (sl_str.or sl_tup)
structure Sl (X : Cx) (F : Fm) (x : R) (lo hi : Option Int) (Q : QE) (own : List Cell)  : Prop where
  mk :: (run : ∀ ls H u, St0 X.K F ls own H → RRep X.K ls (F.g ls own H) x u → ∀ Qv : VK, KV' X F ls own H Q Qv → rSlA X.K u lo hi H Qv)
instance {X : Cx} {F : Fm} {x : R} {lo hi : Option Int} {Q : QE} {own : List Cell}  : CoeFun (Sl X F x lo hi Q own) (fun _ => ∀ ls H u, St0 X.K F ls own H → RRep X.K ls (F.g ls own H) x u → ∀ Qv : VK, KV' X F ls own H Q Qv → rSlA X.K u lo hi H Qv) := ⟨Sl.run⟩
theorem E.slice {e : Expr} {lo hi : Option Expr} {p2 pos : Pos} (h : E X F e (fun o x => PoE X F lo (fun o1 l => PoE X F hi (fun o2 u => Sl X F x l u Q o2) o1 ρ) o ρ) own ρ) : E X F (.Subscript e (.Slice lo hi none p2) pos) Q own ρ := by
  constructor
  intro ls σ H st sr Qv k
  refine (pe_slice sl_any pe_we po_w po_w).to ?_
  refine h ls σ H st sr _ fun ls1 own1 H1 x u l1 s1 rx q => ?_
  refine q ls1 σ H1 s1 (sr.up l1.pre l1.same) _ fun ls2 own2 H2 lo' l2 s2 q2 => ?_
  refine q2 ls2 σ H2 s2 (sr.up (l1.trans l2).pre (l1.trans l2).same) _ fun ls3 own3 H3 hi' l3 s3 q3 => ?_
  exact q3 ls3 H3 u s3 (rx.up (l2.trans l3).pre (l2.trans l3).same) Qv fun _ _ _ _ _ l4 => k _ _ _ _ _ (((l1.trans l2).trans l3).trans l4)
/-- a list's slice is a new list -/
theorem Sl.lst {ds : List D} {lo hi : Option Int} (h : Q own (.d (.lst (cutD ds lo hi)))) : Sl X F (.d (.lst ds)) lo hi Q own := by
  constructor
  intro ls H u st rx Qv k
  obtain ⟨p, xs, rfl, hs, hr⟩ := lst_rr rx
  refine .inl ⟨p, xs, rfl, sq_h hs, fun l hl => ?_⟩
  refine k _ _ _ (.d (.lst _)) _ (Le.grow (same_new hl)) (st.grow (same_new hl)) ?_ h
  simp only [RRep, Rep]
  exact ⟨l, _, rfl, st.seen hl, Reps.mono (msk_mono (same_new hl)) (cut_rep hr)⟩
theorem Sl.str {s : Str} {lo hi : Option Int} (hz : s.length ≤ sizeLine) (h : Q own (.d (.str (cutS s lo hi)))) : Sl X F (.d (.str s)) lo hi Q own := by
  constructor
  intro ls H u st rx Qv k
  cases rr_str rx
  exact .inr (.inl ⟨s, rfl, hz, k _ _ _ (.d (.str _)) _ Le.refl st ir_str h⟩)
/-- a tuple's slice that is not the whole is a new tuple -/
theorem Sl.tup {ds : List D} {lo hi : Option Int} (hn : ¬ (HT.sIx ds.length 0 lo = 0 ∧ HT.sIx ds.length ds.length hi = ds.length)) (h : Q own (.d (.tup (cutD ds lo hi)))) : Sl X F (.d (.tup ds)) lo hi Q own := by
  constructor
  intro ls H u st rx Qv k
  obtain ⟨p, xs, rfl, hs, hr⟩ := tup_rr rx
  refine .inr (.inr ⟨p, xs, rfl, Same.seqT (msk_same _ _) hs, by rw [← hr.length]; exact hn, fun l hl => ?_⟩)
  refine k _ _ _ (.d (.tup _)) _ (Le.grow (same_new hl)) (st.grow (same_new hl)) ?_ h
  simp only [RRep, Rep]
  exact ⟨l, _, rfl, st.seen hl, Reps.mono (msk_mono (same_new hl)) (cut_rep hr)⟩
/-- list + list: a new list -/
theorem O2.cat {as bs : List D} (hz : as.length + bs.length ≤ sizeLine) (h : Q own (.d (.lst (as ++ bs)))) : O2 X F (.bin .Add) (.d (.lst as)) (.d (.lst bs)) Q own := by
  constructor
  intro ls H u v st rx ry Qv k
  obtain ⟨p, xs, rfl, hs, hr⟩ := lst_rr rx
  obtain ⟨q, ys, rfl, hs', hr'⟩ := lst_rr ry
  refine op_cat.to ⟨p, q, xs, ys, rfl, rfl, msk_same _ _ _ _ hs, msk_same _ _ _ _ hs', by rw [← hr.length, ← hr'.length]; exact hz, fun l hl => ?_⟩
  refine k _ _ _ (.d (.lst _)) _ (Le.grow (same_new hl)) (st.grow (same_new hl)) ?_ h
  simp only [RRep, Rep]
  exact ⟨l, _, rfl, st.seen hl, Reps.mono (msk_mono (same_new hl)) (hr.append hr')⟩
theorem O2.catS {a b : Str} (hz : a.length + b.length ≤ sizeLine) (h : Q own (.d (.str (a ++ b)))) : O2 X F (.bin .Add) (.d (.str a)) (.d (.str b)) Q own := by
  constructor
  intro ls H u v st rx ry Qv k
  cases rr_str rx
  cases rr_str ry
  exact op_add_str.to ⟨a, b, rfl, rfl, hz, k _ _ _ (.d (.str _)) _ Le.refl st ir_str h⟩
end
end DL

namespace DL
open PySem PySem.Spec PyProof.Rows L2

/-! ### promises over data -/
/-- a def that changes nothing that stood: what it asks of its arguments, what it hands back -/
def spF (K : PySem.W.Frag) (pre : List D → Prop) (post : List D → D → Prop) : Sp := fun vs H Q _ => ∃ (S : List Addr) (ds : List D), (∀ b ∈ S, Hid (H b)) ∧ Reps K (msk S H) ds vs ∧ pre ds ∧
  ∀ v H' d, Same H H' → Rep K (msk S H') d v → post ds d → Q v H'
/-- a def that changes its first argument alone, a list of which I holds ahead and behind -/
def spP (K : PySem.W.Frag) (I : List D → Prop) (pre : List D → Prop) (post : List D → D → Prop) : Sp := fun vs H Q _ => ∃ (S : List Addr) (l : Addr) (ws xs : List V) (ps ds : List D), vs = .ref l :: ws ∧ l ∈ S ∧ (∀ b ∈ S, Hid (H b)) ∧
  H l = some (.lst xs) ∧ Reps K (msk S H) ps xs ∧ I ps ∧ Reps K (msk S H) ds ws ∧ pre ds ∧
  ∀ v H' d xs' ps', (∀ b o, b ≠ l → H b = some o → H' b = some o) → H' l = some (.lst xs') → Reps K (msk S H') ps' xs' → I ps' → Rep K (msk S H') d v → post ds d → Q v H'
/-- an __init__: it fills its new instance -/
def spI (K : PySem.W.Frag) (C : Addr) (ns : List Str) (pre : List D → Prop) (post : List D → List D → Prop) : Sp := fun vs H Q _ => ∃ (S : List Addr) (x dx : Addr) (ws : List V) (ds : List D), vs = .ref x :: ws ∧ x ∉ S ∧ (∀ b ∈ S, Hid (H b)) ∧
  H x = some (.ins C dx []) ∧ Reps K (msk (S ++ [x]) H) ds ws ∧ pre ds ∧
  ∀ H' dx' xs fs, (∀ b o, b ≠ x → H b = some o → H' b = some o) → H' x = some (.ins C dx' (ns.zip xs)) → ns.length = fs.length → Reps K (msk (S ++ [x]) H') fs xs → post ds fs → Q .non H'

theorem reps_append_inv {K : PySem.W.Frag} {G : Hp} {ds : List D} {vs : List V} (h : Reps K G ds vs) : ds.length = vs.length := h.length
theorem rreps_data {K : PySem.W.Frag} {ls : List Addr} {G : Hp} {ds : List D} {vs : List V} (h : Reps K G ds vs) : SRep K ls G (ds.map fun d => some (R.d d)) (vs.map some) := by
  induction ds generalizing vs with
  | nil => simp only [Reps] at h; subst h; exact .nil
  | cons d ds ih =>
    simp only [Reps] at h
    obtain ⟨x, r, rfl, h2, h3⟩ := h
    exact .cons h2 (ih h3)
theorem srep_nones {K : PySem.W.Frag} {ls : List Addr} {G : Hp} : ∀ n : Nat, SRep K ls G (List.replicate n none) (List.replicate n none)
  | 0 => .nil
  | n + 1 => .cons True.intro (srep_nones n)
theorem srep_append {K : PySem.W.Frag} {ls : List Addr} {G : Hp} : ∀ {ρ ρ' : Ro} {σ σ' : L2.St}, SRep K ls G ρ σ → SRep K ls G ρ' σ' → SRep K ls G (ρ ++ ρ') (σ ++ σ')
  | _, _, _, _, .nil, h => h
  | _, _, _, _, .cons a t, h => .cons a (srep_append t h)
theorem start_rep {K : PySem.W.Frag} {ls : List Addr} {G : Hp} {rs : List R} {vs : List V} (N : List Str) (h : RReps K ls G rs vs) : SRep K ls G (rs.map some ++ List.replicate (N.length - rs.length) none) (L2.start N vs) := by
  unfold L2.start
  rw [h.length']
  refine srep_append ?_ (srep_nones _)
  clear N
  induction h with
  | nil => exact .nil
  | cons a t ih => exact .cons a ih
/-- the names at a def's entry -/
abbrev ent (n : Nat) (rs : List R) : Ro := rs.map some ++ List.replicate (n - rs.length) none

section
variable {P : Program} {w : World} {K : PySem.W.Frag} {mg : Str → Option Value} {base : Heap}
/-- the body's context in a def that lets nothing out -/
abbrev cx0 (P : Program) (w : World) (K : PySem.W.Frag) (mg : Str → Option Value) (base : Heap) (N : List Str) (qual : Str) (sc : Scope) (f : Addr) (cdv : Value) (A : Around) (outer : List Env) (s : Shared) (H : Hp) (E : XK) : Cx := (cxOf CX0 P w K mg base N qual sc f cdv A outer s H E).nox

theorem ok_F {x qual : Str} {st : Stmt} {f : Addr} {fd : FuncData} {N ps : List Str} {k : Nat} (F : Fun K x qual st f fd) (S : FnScope N ps (defScope st)) {pre : List D → Prop} {post : List D → D → Prop} (hlen : ∀ ds, pre ds → ds.length = ps.length)
    (body : ∀ (cdv : Value) (A : Around) (outer : List Env) (s : Shared) (H : Hp) (E : XK) (Fr : Fm) (ds : List D), Room k (A.deeper (envOfC qual (defScope st) s.heap.objs.size f cdv)) → Fr.mu = [] → pre ds →
      W (cx0 P w K mg base N qual (defScope st) f cdv A outer s H E) Fr (defBody st) { nx := fun _ _ => post ds .non, rt := fun _ r => ∃ d, r = .d d ∧ post ds d } [] (ent N.length (ds.map R.d))) :
    FnOk P w K mg base CX0 (k + 1) f fd ps (spF K pre post) := by
  refine F.ok S (fun vs H Q E h => ?_) (fun cdv A outer s H vs Q E hr h => ?_)
  · obtain ⟨_, ds, _, h2, h3, _⟩ := h
    rw [← h2.length]; exact hlen ds h3
  · obtain ⟨S0, ds, h1, h2, h3, kk⟩ := h
    refine ⟨_, pss_ws, ?_⟩
    have st0 : St0 K (Fm.of H S0 []) [] [] H := ⟨rfl, List.nodup_nil, fun l hl => absurd hl (by simp), fun k l c hl => absurd hl (by simp), fun b o _ e => e, fun b h => h, h1, fun l hl => absurd hl (by simp), List.nil_prefix, fun _ _ e => by cases e⟩
    have eg : Fm.g (Fm.of H S0 []) [] [] H = msk S0 H := by show msk (S0 ++ live [] []) H = _; simp [live]
    have sr : SRep K [] (Fm.g (Fm.of H S0 []) [] [] H) (ent N.length (ds.map R.d)) (L2.start N vs) := start_rep N (by rw [eg]; exact RReps.ofD h2)
    have fin : ∀ {ls' : List Addr} {own' : List Cell} {H' : Hp} {d : D} {v : V}, St0 K (Fm.of H S0 []) ls' own' H' → Rep K (Fm.g (Fm.of H S0 []) ls' own' H') d v → post ds d → Q v H' := fun s' r q =>
      kk _ _ _ (fun b o e => s'.keep b o (by simp) e) (Rep.mono (msk_le fun b hb => List.mem_append_left _ hb) r) q
    refine body cdv A outer s H E (Fm.of H S0 []) ds hr rfl h3 [] (L2.start N vs) H st0 sr _ ⟨?_, ?_, ?_, ?_⟩
    · intro ls' own' H' ρ σ _ s' _ q
      exact fin (d := .non) s' (by simp only [Rep]) q
    · rintro ls' own' H' r v _ s' rv ⟨d, rfl, q⟩
      exact fin s' rv q
    · intro _ _ _ _ _ _ _ _ q; exact q
    · intro _ _ _ _ _ _ _ _ q; exact q

/-- the cell's content is as I says -/
def CellI (I : List D → Prop) (own : List Cell) : Prop := own[0]? = some (.any I) ∨ ∃ ps : List D, own[0]? = some (.lst (ps.map R.d)) ∧ I ps
theorem ok_P {x qual : Str} {st : Stmt} {f : Addr} {fd : FuncData} {N ps : List Str} {k : Nat} (F : Fun K x qual st f fd) (S : FnScope N ps (defScope st)) {I : List D → Prop} {pre : List D → Prop} {post : List D → D → Prop} (hlen : ∀ ds, pre ds → ds.length + 1 = ps.length)
    (body : ∀ (cdv : Value) (A : Around) (outer : List Env) (s : Shared) (H : Hp) (E : XK) (Fr : Fm) (ds : List D), Room k (A.deeper (envOfC qual (defScope st) s.heap.objs.size f cdv)) → pre ds →
      W (cx0 P w K mg base N qual (defScope st) f cdv A outer s H E) Fr (defBody st) { nx := fun own _ => CellI I own ∧ post ds .non, rt := fun own r => CellI I own ∧ ∃ d, r = .d d ∧ post ds d } [.any I] (ent N.length (.c 0 :: ds.map R.d))) :
    FnOk P w K mg base CX0 (k + 1) f fd ps (spP K I pre post) := by
  refine F.ok S (fun vs H Q E h => ?_) (fun cdv A outer s H vs Q E hr h => ?_)
  · obtain ⟨_, l, ws, xs, qs, ds, rfl, _, _, _, _, _, h7, h8, _⟩ := h
    rw [List.length_cons, ← h7.length]; exact hlen ds h8
  · obtain ⟨S0, l, ws, xs, qs, ds, rfl, hl, h1, h4, h5, h6, h7, h8, kk⟩ := h
    refine ⟨_, pss_ws, ?_⟩
    have nl : l ∉ S0.filter (· ≠ l) := by simp
    have em : ∀ H1 : Hp, msk (S0.filter (· ≠ l) ++ [l]) H1 = msk S0 H1 := fun H1 => msk_congr fun b => by
      simp only [List.mem_append, List.mem_filter, List.mem_singleton, decide_eq_true_eq, ne_eq]
      constructor
      · rintro (⟨h, _⟩ | rfl)
        · exact h
        · exact hl
      · intro h
        by_cases e : b = l
        · exact .inr e
        · exact .inl ⟨h, by simpa using e⟩
    have eg : ∀ H1, Fm.g (Fm.of H (S0.filter (· ≠ l)) [l]) [l] [.any I] H1 = msk S0 H1 := fun H1 => em H1
    have st0 : St0 K (Fm.of H (S0.filter (· ≠ l)) [l]) [l] [.any I] H := by
      refine ⟨rfl, by simp, fun b hb => ?_, fun j b c e1 e2 => ?_, fun b o _ e => e, fun b h => h, fun b hb => h1 b (List.mem_filter.mp hb).1, fun b hb => by rw [List.mem_singleton.mp hb, h4]; exact fun z => (by cases z), List.nil_prefix, fun _ _ e => by cases e⟩
      · rw [List.mem_singleton.mp hb]; exact ⟨nl, .inr (by simp)⟩
      · cases j with
        | zero =>
          simp at e1 e2
          subst e1; subst e2
          rw [eg]
          exact ⟨xs, qs, h4, h5, h6⟩
        | succ j => simp at e1
    have sr : SRep K [l] (Fm.g (Fm.of H (S0.filter (· ≠ l)) [l]) [l] [.any I] H) (ent N.length (.c 0 :: ds.map R.d)) (L2.start N (.ref l :: ws)) := start_rep N (.cons ⟨l, rfl, rfl⟩ (by rw [eg]; exact RReps.ofD h7))
    have fin : ∀ {ls' : List Addr} {own' : List Cell} {H' : Hp} {d : D} {v : V}, Le (Fm.of H (S0.filter (· ≠ l)) [l]) [l] [.any I] H ls' own' H' → St0 K (Fm.of H (S0.filter (· ≠ l)) [l]) ls' own' H' → CellI I own' → Rep K (Fm.g (Fm.of H (S0.filter (· ≠ l)) [l]) ls' own' H') d v → post ds d → Q v H' := by
      intro ls' own' H' d v le s' ci r q
      have e0 : ls'[0]? = some l := pre_get le.pre rfl
      have sub : ∀ c, own'[0]? = some c → c ≠ .gone → Same (Fm.g (Fm.of H (S0.filter (· ≠ l)) [l]) ls' own' H') (msk S0 H') := fun c ec nc => by
        rw [← em]
        refine msk_le fun b hb => ?_
        rcases List.mem_append.mp hb with h | h
        · exact List.mem_append_left _ h
        · rw [List.mem_singleton.mp h]; exact List.mem_append_right _ (live_get e0 ec nc)
      have keep : ∀ b o, b ≠ l → H b = some o → H' b = some o := fun b o hb e => s'.keep b o (by simpa using hb) e
      rcases ci with ec | ⟨qs', ec, hi⟩
      · obtain ⟨xs', ps', g1, g2, g3⟩ := s'.at_ 0 l _ e0 ec
        exact kk _ _ _ _ _ keep g1 (Reps.mono (sub _ ec (fun z => by cases z)) g2) g3 (Rep.mono (sub _ ec (fun z => by cases z)) r) q
      · obtain ⟨xs', g1, g2⟩ := s'.at_ 0 l _ e0 ec
        exact kk _ _ _ _ _ keep g1 (Reps.mono (sub _ ec (fun z => by cases z)) (RReps.toD g2)) hi (Rep.mono (sub _ ec (fun z => by cases z)) r) q
    refine body cdv A outer s H E (Fm.of H (S0.filter (· ≠ l)) [l]) ds hr h8 [l] (L2.start N (.ref l :: ws)) H st0 sr _ ⟨?_, ?_, ?_, ?_⟩
    · rintro ls' own' H' ρ σ le s' _ ⟨ci, q⟩
      exact fin (d := .non) le s' ci (by simp only [Rep]) q
    · rintro ls' own' H' r v le s' rv ⟨ci, d, rfl, q⟩
      exact fin le s' ci rv q
    · intro _ _ _ _ _ _ _ _ q; exact q
    · intro _ _ _ _ _ _ _ _ q; exact q

theorem ok_I {x qual : Str} {st : Stmt} {f C : Addr} {fd : FuncData} {N ps ns : List Str} {k : Nat} (F : Fun K x qual st f fd ∨ ∃ dvs kws, FunD K x qual (defArgs st) (defBody st) (defScope st) dvs kws f fd) (S : FnScope N ps (defScope st)) {pre : List D → Prop} {post : List D → List D → Prop} (hlen : ∀ ds, pre ds → ds.length + 1 = ps.length)
    (body : ∀ (cdv : Value) (A : Around) (outer : List Env) (s : Shared) (H : Hp) (E : XK) (Fr : Fm) (ds : List D), Room k (A.deeper (envOfC qual (defScope st) s.heap.objs.size f cdv)) → pre ds →
      W (cx0 P w K mg base N qual (defScope st) f cdv A outer s H E) Fr (defBody st) { nx := fun own _ => ∃ fs : List D, own[0]? = some (.ins C ns (fs.map R.d)) ∧ post ds fs, rt := fun own r => r = .d .non ∧ ∃ fs : List D, own[0]? = some (.ins C ns (fs.map R.d)) ∧ post ds fs } [.ins C [] []] (ent N.length (.c 0 :: ds.map R.d))) :
    FnOk P w K mg base CX0 (k + 1) f fd ps (spI K C ns pre post) := by
  have len : ∀ vs H Q E, spI K C ns pre post vs H Q E → vs.length = ps.length := fun vs H Q E h => by
    obtain ⟨_, l, dx, ws, ds, rfl, _, _, _, h7, h8, _⟩ := h
    rw [List.length_cons, ← h7.length]; exact hlen ds h8
  have hb : ∀ (cdv : Value) (A : Around) (outer : List Env) (s : Shared) (H : Hp) (vs : List V) (Q : VK) (E : XK), Room k (A.deeper (envOfC qual (defScope st) s.heap.objs.size f cdv)) → spI K C ns pre post vs H Q E →
      ∃ t, PSs (cx0 P w K mg base N qual (defScope st) f cdv A outer s H E) (defBody st) t ∧ t { nx := fun _ H' => Q .non H', rt := Q } (L2.start N vs) H := by
    intro cdv A outer s H vs Q E hr h
    obtain ⟨S0, l, dx, ws, ds, rfl, hl, h1, h4, h7, h8, kk⟩ := h
    refine ⟨_, pss_ws, ?_⟩
    have st0 : St0 K (Fm.of H S0 [l]) [l] [.ins C [] []] H := by
      refine ⟨rfl, by simp, fun b hb => ?_, fun j b c e1 e2 => ?_, fun b o _ e => e, fun b h => h, h1, fun b hb => by rw [List.mem_singleton.mp hb, h4]; exact fun z => (by cases z), List.nil_prefix, fun _ _ e => by cases e⟩
      · rw [List.mem_singleton.mp hb]; exact ⟨hl, .inr (by simp)⟩
      · cases j with
        | zero =>
          simp at e1 e2
          subst e1; subst e2
          exact ⟨dx, [], h4, rfl, .nil⟩
        | succ j => simp at e1
    have sr : SRep K [l] (Fm.g (Fm.of H S0 [l]) [l] [.ins C [] []] H) (ent N.length (.c 0 :: ds.map R.d)) (L2.start N (.ref l :: ws)) := start_rep N (.cons ⟨l, rfl, rfl⟩ (RReps.ofD h7))
    have fin : ∀ {ls' : List Addr} {own' : List Cell} {H' : Hp}, Le (Fm.of H S0 [l]) [l] [.ins C [] []] H ls' own' H' → St0 K (Fm.of H S0 [l]) ls' own' H' → (∃ fs : List D, own'[0]? = some (.ins C ns (fs.map R.d)) ∧ post ds fs) → Q .non H' := by
      rintro ls' own' H' le s' ⟨fs, ec, q⟩
      have e0 : ls'[0]? = some l := pre_get le.pre rfl
      obtain ⟨dx', xs', g1, g2, g3⟩ := s'.at_ 0 l _ e0 ec
      refine kk _ _ _ _ (fun b o hb e => s'.keep b o (by simpa using hb) e) g1 (by rw [g2, List.length_map]) (Reps.mono (msk_le fun b hb => ?_) (RReps.toD g3)) q
      rcases List.mem_append.mp hb with h | h
      · exact List.mem_append_left _ h
      · rw [List.mem_singleton.mp h]; exact List.mem_append_right _ (live_get e0 ec fun z => by cases z)
    refine body cdv A outer s H E (Fm.of H S0 [l]) ds hr h8 [l] (L2.start N (.ref l :: ws)) H st0 sr _ ⟨?_, ?_, ?_, ?_⟩
    · intro ls' own' H' ρ σ le s' _ q
      exact fin le s' q
    · rintro ls' own' H' r v le s' rv ⟨rfl, q⟩
      have e := rr_non rv
      subst e
      exact fin le s' q
    · intro _ _ _ _ _ _ _ _ q; exact q
    · intro _ _ _ _ _ _ _ _ q; exact q
  rcases F with F | ⟨dvs, kws, F⟩
  · exact F.ok S len hb
  · refine F.ok S len fun cdv A outer s H vs Q E hr h => ?_
    obtain ⟨t, h1, h2⟩ := hb cdv A outer s H vs Q E hr h
    exact ⟨t, h1.nox, h2⟩
end

/-! ### calls -/
section
variable {X : Cx} {F : Fm} {own : List Cell} {ρ : Ro} {Q : QE} {k : Nat} {f C : Addr} {fd : FuncData} {ps : List Str} {pre : List D → Prop} {post : List D → D → Prop} {I : List D → Prop} {x m : Str} {p pos apos : Pos} {e o : Expr} {es : List Expr}
theorem reps_app {K : PySem.W.Frag} {ls : List Addr} {G : Hp} {ds : List D} {vs : List V} (h : RReps K ls G (ds.map R.d) vs) : Reps K G ds vs := RReps.toD h
/-- what a def that changes nothing hands on -/
theorem spF_use {ls own H Qv} {ds : List D} {vs : List V} (st : St0 X.K F ls own H) (rr : Reps X.K (F.g ls own H) ds vs) (hp : pre ds) (k : KV' X F ls own H Q Qv) (q : ∀ d, post ds d → Q own (.d d)) (E : XK) : spF X.K pre post vs H Qv E :=
  ⟨F.S0 ++ live ls own, ds, st.hid, rr, hp, fun v H' d sm rd pd => k ls own H' (.d d) v (Le.grow sm) (st.grow sm) rd (q d pd)⟩
theorem E.call (G : FnOk X.prog X.w X.K X.mg X.base CX0 k f fd ps (spF X.K pre post)) (hr : Room k X.A) (hm : X.mg x = some (.ref f)) (hk : PySem.W.keepIn X.K (.ref f) = true) (hb : Binds X.K fd ps [])
    (h : A X F (e :: es) (fun o rs => ∃ ds : List D, rs = ds.map R.d ∧ pre ds ∧ ∀ d, post ds d → Q o (.d d)) own ρ) (hg : Gl X x := by rfl) (hdb : (x == ("__debug__" : Str)) = false := by decide) (he : starEach (e :: es) X.env = (false, eval e X.env) :: starEach es X.env := by rfl)
    (hpl : (backTo pos (starEach es X.env)).any (·.1) = false := by rfl) : E X F (.Call (.Name x p) (e :: es) [] pos) Q own ρ := by
  constructor
  intro ls σ H st sr Qv k
  refine (pe_call G hr hg hm hk hb .nil pass0 pa_wa hdb he hpl).to ?_
  refine h ls σ H st sr _ fun ls1 own1 H1 rs vs l1 s1 rr ⟨ds, er, hp, q⟩ => ?_
  subst er
  rw [List.append_nil]
  exact spF_use s1 (RReps.toD rr) hp (fun _ _ _ _ _ l => k _ _ _ _ _ (l1.trans l)) q _
theorem st0_other {K : PySem.W.Frag} {F : Fm} {ls : List Addr} {own : List Cell} {H H' : Hp} {n : Nat} {l : Addr} {c c' : Cell} (st : St0 K F ls own H) (hl : ls[n]? = some l) (hc : own[n]? = some c) (nc : c ≠ .gone) (nc' : c' ≠ .gone) (hm : ∀ b o, b ≠ l → H b = some o → H' b = some o)
    (hn : H' l ≠ none) (at' : CellAt K ls (F.g ls own H') H' l c') : St0 K F ls (own.set n c') H' ∧ Le F ls own H ls (own.set n c') H' := by
  have el : ∀ H1, F.g ls (own.set n c') H1 = F.g ls own H1 := fun H1 => by show msk (F.S0 ++ live ls (own.set n c')) H1 = _; rw [live_set hc nc nc']
  have hin : l ∈ F.S0 ++ live ls own := List.mem_append_right _ (live_get hl hc nc)
  have sm : Same (F.g ls own H) (F.g ls own H') := msk_but fun b o hb e => hm b o (fun z => hb (z ▸ hin)) e
  have hnew := st.new l (List.mem_of_getElem? hl)
  refine ⟨⟨by rw [List.length_set]; exact st.len, st.nd, st.new, fun j b c1 e1 e2 => ?_, fun b o hb e => ?_, fun b hb => ?_, fun b hb => (st.s0 b hb).up fun o e => hm b o (fun z => hnew.1 (by rw [← z]; exact hb)) e, fun b hb => ?_, st.ap, st.as.trans (by rw [el]; exact sm)⟩, ⟨List.prefix_rfl, by rw [el]; exact sm⟩⟩
  · rw [el]
    by_cases hj : n = j
    · subst hj
      have hlt : n < own.length := (List.getElem?_eq_some_iff.mp hc).1
      rw [List.getElem?_set_self hlt] at e2
      cases e2
      rw [hl] at e1
      cases e1
      exact at'
    · rw [List.getElem?_set_ne hj] at e2
      have hbl : b ≠ l := fun z => by
        subst z
        exact hj (nd_ix st.nd hl e1)
      exact (st.at_ j b c1 e1 e2).up List.prefix_rfl sm fun o q => hm b o hbl q
  · by_cases z : b = l
    · subst z
      rcases hnew.2 with h | h
      · rw [h] at e; cases e
      · exact absurd h hb
    · exact hm b o z (st.keep b o hb e)
  · by_cases z : b = l
    · subst z; exact hn
    · have := st.dom b hb
      cases q : H b with
      | none => exact absurd q this
      | some o => rw [hm b o z q]; exact fun z => by cases z
  · by_cases z : b = l
    · subst z; exact hn
    · have := st.there b hb
      cases q : H b with
      | none => exact absurd q this
      | some o => rw [hm b o z q]; exact fun z => by cases z
/-- a def that changes its first argument, a cell -/
theorem E.callP (G : FnOk X.prog X.w X.K X.mg X.base CX0 k f fd ps (spP X.K I pre post)) (hr : Room k X.A) (hm : X.mg x = some (.ref f)) (hk : PySem.W.keepIn X.K (.ref f) = true) (hb : Binds X.K fd ps [])
    (h : A X F (e :: es) (fun o rs => ∃ (n : Nat) (ds : List D), rs = .c n :: ds.map R.d ∧ o[n]? = some (.any I) ∧ pre ds ∧ ∀ d, post ds d → Q o (.d d)) own ρ) (hg : Gl X x := by rfl) (hdb : (x == ("__debug__" : Str)) = false := by decide) (he : starEach (e :: es) X.env = (false, eval e X.env) :: starEach es X.env := by rfl)
    (hpl : (backTo pos (starEach es X.env)).any (·.1) = false := by rfl) : E X F (.Call (.Name x p) (e :: es) [] pos) Q own ρ := by
  constructor
  intro ls σ H st sr Qv k
  refine (pe_call G hr hg hm hk hb .nil pass0 pa_wa hdb he hpl).to ?_
  refine h ls σ H st sr _ fun ls1 own1 H1 rs vs l1 s1 rr ⟨n, ds, er, hc, hp, q⟩ => ?_
  subst er
  rw [List.append_nil]
  cases rr with
  | cons r0 rr =>
    obtain ⟨l, hl, rfl⟩ := r0
    obtain ⟨xs, qs, g1, g2, g3⟩ := s1.at_ n l _ hl hc
    refine ⟨F.S0 ++ live ls1 own1, l, _, xs, qs, ds, rfl, List.mem_append_right _ (live_get hl hc fun z => by cases z), s1.hid, g1, g2, g3, RReps.toD rr, hp, fun v H' d xs' ps' hm' a1 a2 a3 a4 a5 => ?_⟩
    have z := st0_other (c' := .any I) s1 hl hc (fun z => by cases z) (fun z => by cases z) hm' (by rw [a1]; exact fun z => by cases z) ⟨xs', ps', a1, a2, a3⟩
    have eo : own1.set n (.any I) = own1 := by
      obtain ⟨hlt, e⟩ := List.getElem?_eq_some_iff.mp hc
      rw [← e]; exact List.set_getElem_self hlt
    rw [eo] at z
    exact k _ _ _ (.d d) _ (l1.trans z.2) z.1 a4 (q d a5)
/-- o.m(e, ..) of an instance, the method changes nothing -/
theorem meth_core {ns : List Str} {ds0 : List D} {v : V} {ls own H} (st : St0 X.K F ls own H) (rv : RRep X.K ls (F.g ls own H) (.d (.ins C ns ds0)) v) (hn : (ns.zip ds0).lookup m = none) : ∃ a dx fs, v = .ref a ∧ H a = some (.ins C dx fs) ∧ fs.lookup m = none := by
  obtain ⟨a, dx, xs, rfl, e, hl, hr⟩ := ins_rr rv
  refine ⟨a, dx, _, rfl, msk_same _ _ _ _ e, ?_⟩
  have key : ∀ (ns : List Str) (ds0 : List D) (xs : List V), ds0.length = xs.length → (ns.zip ds0).lookup m = none → (ns.zip xs).lookup m = none := by
    intro ns
    induction ns with
    | nil => intro _ _ _ _; rfl
    | cons n ns ih =>
      intro ds0 xs hl h
      cases ds0 with
      | nil => cases xs with
        | nil => rfl
        | cons _ _ => simp at hl
      | cons d ds0 => cases xs with
        | nil => simp at hl
        | cons y xs =>
          simp only [List.zip_cons_cons, List.lookup_cons] at h ⊢
          cases q : m == n with
          | true => rw [q] at h; cases h
          | false => rw [q] at h; exact ih ds0 xs (by simpa using hl) h
  exact key _ _ _ hr.length hn
theorem E.meth {pl : Sem Bool} (c : Cls X.K C) (hm : Meth X.K C m f) (G : FnOk X.prog X.w X.K X.mg X.base CX0 k f fd ps (spF X.K pre post)) (hr : Room k X.A) (hb : Binds X.K fd ps [])
    (h : E X F o (fun o1 r => ∃ ns ds0, r = .d (.ins C ns ds0) ∧ (ns.zip ds0).lookup m = none ∧ A X F (e :: es) (fun o2 rs => ∃ ds : List D, rs = ds.map R.d ∧ pre (.ins C ns ds0 :: ds) ∧ ∀ d, post (.ins C ns ds0 :: ds) d → Q o2 (.d d)) o1 ρ) own ρ)
    (hst : starEach (e :: es) X.env = (false, eval e X.env) :: starEach es X.env := by rfl) (hpl : (backTo pos (starEach es X.env)).any (·.1) = false := by rfl)
    (ht : eval (.Call (.Attribute o m apos) (e :: es) [] pos) X.env = (do
      let ov ← eval o X.env
      standAt apos.atName
      let (f, first) ← holding [ov] (getMethod ov m pl)
      callWith pos f first (backTo pos (starEach (e :: es) X.env)) (backToKw pos (keywordEach [] X.env))) := by rfl) : E X F (.Call (.Attribute o m apos) (e :: es) [] pos) Q own ρ := by
  constructor
  intro ls σ H st sr Qv k
  refine (pe_meth pe_we c hm G hr hb .nil pass0 pa_wa hst hpl ht).to ?_
  refine h ls σ H st sr _ fun ls1 own1 H1 r u l1 s1 rr ⟨ns, ds0, er, hn, ha⟩ => ?_
  subst er
  obtain ⟨a, dx, fs, rfl, g1, g2⟩ := meth_core s1 rr hn
  refine ⟨a, dx, fs, rfl, g1, g2, ?_⟩
  refine ha ls1 σ H1 s1 (sr.up l1.pre l1.same) _ fun ls2 own2 H2 rs vs l2 s2 rr2 ⟨ds, er, hp, q⟩ => ?_
  subst er
  rw [List.append_nil]
  exact spF_use s2 (Reps.cons (rr.up l2.pre l2.same) (RReps.toD rr2)) hp (fun _ _ _ _ _ l => k _ _ _ _ _ ((l1.trans l2).trans l)) q _
theorem E.meth0 {pl : Sem Bool} (c : Cls X.K C) (hm : Meth X.K C m f) (G : FnOk X.prog X.w X.K X.mg X.base CX0 k f fd ps (spF X.K pre post)) (hr : Room k X.A) (hb : Binds X.K fd ps [])
    (h : E X F o (fun o1 r => ∃ ns ds0, r = .d (.ins C ns ds0) ∧ (ns.zip ds0).lookup m = none ∧ pre [.ins C ns ds0] ∧ ∀ d, post [.ins C ns ds0] d → Q o1 (.d d)) own ρ)
    (ht : eval (.Call (.Attribute o m apos) [] [] pos) X.env = (do
      let ov ← eval o X.env
      standAt apos.atName
      let (f, first) ← holding [ov] (getMethod ov m pl)
      callWith pos f first (backTo pos (starEach [] X.env)) (backToKw pos (keywordEach [] X.env))) := by rfl) : E X F (.Call (.Attribute o m apos) [] [] pos) Q own ρ := by
  constructor
  intro ls σ H st sr Qv k
  refine (pe_meth0 pe_we c hm G hr hb .nil pass0 ht).to ?_
  refine h ls σ H st sr _ fun ls1 own1 H1 r u l1 s1 rr ⟨ns, ds0, er, hn, hp, q⟩ => ?_
  subst er
  obtain ⟨a, dx, fs, rfl, g1, g2⟩ := meth_core s1 rr hn
  refine ⟨a, dx, fs, rfl, g1, g2, ?_⟩
  show spF X.K pre post [.ref a] H1 Qv E0
  exact spF_use s1 (Reps.cons rr Reps.nil) hp (fun _ _ _ _ _ l => k _ _ _ _ _ (l1.trans l)) q _
/-- C(e, ..): ds the defaults that fill up -/
theorem E.make {ns : List Str} {postI : List D → List D → Prop} {dds : List D} {dvs : List V} {dus : List Value} (M : Mk X.K C f) (G : FnOk X.prog X.w X.K X.mg X.base CX0 k f fd ps (spI X.K C ns pre postI)) (hr : Room (k + 1) X.A) (hm : X.mg x = some (.ref C)) (hb : Binds X.K fd ps dus) (hdv : Vals dvs dus) (hdd : ∀ G, Reps X.K G dds dvs)
    (h : A X F (e :: es) (fun o rs => ∃ ds : List D, rs = ds.map R.d ∧ pre (ds ++ dds) ∧ ∀ fs, postI (ds ++ dds) fs → Q o (.d (.ins C ns fs))) own ρ) (hg : Gl X x := by rfl) (hdb : (x == ("__debug__" : Str)) = false := by decide) (he : starEach (e :: es) X.env = (false, eval e X.env) :: starEach es X.env := by rfl)
    (hpl : (backTo pos (starEach es X.env)).any (·.1) = false := by rfl) : E X F (.Call (.Name x p) (e :: es) [] pos) Q own ρ := by
  constructor
  intro ls σ H st sr Qv k
  refine (pe_make M G hr hg hm hb hdv pass0 pa_wa hdb he hpl).to ?_
  refine h ls σ H st sr _ fun ls1 own1 H1 rs vs l1 s1 rr ⟨ds, er, hp, q⟩ => ?_
  subst er
  intro a dx ha hdx hne
  have hid : a ∉ F.S0 ++ live ls1 own1 := fun z => (s1.hid a z).ne ha
  have sm0 : Same H1 (upd (upd H1 dx (.own a)) a (.ins C dx [])) := fun b o e => by rw [upd_ne (ne_of_none e ha), upd_ne (ne_of_none e hdx)]; exact e
  refine ⟨F.S0 ++ live ls1 own1, a, dx, _, ds ++ dds, rfl, hid, fun b hb => ?_, upd_same, ?_, hp, fun H' dx' xs fs hm' a1 a2 a3 a4 => ⟨rfl, ?_⟩⟩
  · exact (s1.hid b hb).up (sm0 b)
  · refine Reps.append (Reps.mono (fun b o e => ?_) (RReps.toD rr)) (hdd _)
    have hb : b ≠ a := fun z => by
      subst z
      have := msk_same _ _ _ _ e
      rw [ha] at this; cases this
    have e : msk (F.S0 ++ live ls1 own1) H1 b = some o := e
    unfold msk at e ⊢
    split at e
    · cases e
    · rename_i hn
      rw [if_neg (by rw [List.mem_append, List.mem_singleton]; exact fun z => z.elim hn hb)]
      exact sm0 b o e
  · have sm : Same H1 H' := fun b o e => hm' b o (fun z => by subst z; rw [ha] at e; cases e) (sm0 b o e)
    refine k ls1 own1 H' (.d (.ins C ns fs)) _ (l1.trans (Le.grow sm)) (s1.grow sm) ?_ (q fs a4)
    simp only [RRep, Rep]
    refine ⟨a, dx', xs, rfl, ?_, a2, Reps.mono (msk_le fun b hb => List.mem_append_left _ hb) a3⟩
    show msk (F.S0 ++ live ls1 own1) H' a = _
    rw [msk_out hid]
    exact a1
/-! ### attributes -/
theorem zip_lookup {K : PySem.W.Frag} {G : Hp} {g : Str} {d : D} : ∀ {ns : List Str} {ds : List D} {xs : List V}, Reps K G ds xs → (ns.zip ds).lookup g = some d → ∃ y, (ns.zip xs).lookup g = some y ∧ Rep K G d y
  | [], _, _, _, h => by simp at h
  | n :: ns, [], _, _, h => by simp at h
  | n :: ns, a :: ds, _, hr, h => by
    simp only [Reps] at hr
    obtain ⟨y, r, rfl, h2, h3⟩ := hr
    simp only [List.zip_cons_cons, List.lookup_cons] at h ⊢
    cases q : g == n with
    | true =>
      rw [q] at h
      cases h
      exact ⟨y, rfl, h2⟩
    | false =>
      rw [q] at h
      exact zip_lookup h3 h
theorem E.fld {g : Str} (h : E X F e (fun o r => ∃ C ns ds d, r = .d (.ins C ns ds) ∧ Cls X.K C ∧ NoAttr X.K C g ∧ (ns.zip ds).lookup g = some d ∧ Q o (.d d)) own ρ) (hb : attributeBase e g X.env (eval e X.env) = eval e X.env := by rfl) : E X F (.Attribute e g pos) Q own ρ := by
  constructor
  intro ls σ H st sr Qv k
  refine (pe_fld pe_we hb).to ?_
  refine h ls σ H st sr _ fun ls1 own1 H1 r u l1 s1 rr ⟨C, ns, ds, d, er, hc, hn, hl, q⟩ => ?_
  subst er
  obtain ⟨a, dx, xs, rfl, e1, e2, e3⟩ := ins_rr rr
  obtain ⟨y, e4, e5⟩ := zip_lookup e3 hl
  exact ⟨a, C, dx, _, y, rfl, msk_same _ _ _ _ e1, hc, hn, e4, k _ _ _ (.d d) _ l1 s1 e5 q⟩
/-- self.g = e in an __init__, g new there -/
theorem W1.fldN {P : Po} {g : Str} {v : Expr} {pos' : Pos} (h : E X F v (fun o1 r => E X F e (fun o2 t => ∃ n C ns rs, t = .c n ∧ o2[n]? = some (.ins C ns rs) ∧ Cls X.K C ∧ NoAttr X.K C g ∧ g ∉ ns ∧ rs.length < 1000 ∧ P.nx (o2.set n (.ins C (ns ++ [g]) (rs ++ [r]))) ρ) o1 ρ) own ρ)
    (hs : swapsWith v (some (.Attribute e g pos')) pos.line X.env = pure false := by rfl) : W1 X F (.Assign [.Attribute e g pos'] v pos) P own ρ := by
  constructor
  intro ls σ H st sr De k
  refine (ps_fld pe_we pe_we hs).to ?_
  refine h ls σ H st sr _ fun ls1 own1 H1 r u l1 s1 rr he => ?_
  refine he ls1 σ H1 s1 (sr.up l1.pre l1.same) _ fun ls2 own2 H2 t y l2 s2 rt ⟨n, C, ns, rs, et, hc, c, na, hg, hlen, q⟩ => ?_
  subst et
  obtain ⟨l, hl, rfl⟩ := rt
  obtain ⟨dx, xs, g1, g2, g3⟩ := s2.at_ n l _ hl hc
  have hx : ns.length = xs.length := by rw [g2, g3.length']
  have hz : ∀ (ns : List Str) (xs : List V), ns.length = xs.length → g ∉ ns → putF g u (ns.zip xs) = (ns ++ [g]).zip (xs ++ [u]) := by
    intro ns
    induction ns with
    | nil => intro xs h _; cases xs with
      | nil => rfl
      | cons _ _ => simp at h
    | cons m ns ih => intro xs h hn; cases xs with
      | nil => simp at h
      | cons y xs =>
        have hm : ¬ m = g := fun z => hn (by rw [z]; exact List.mem_cons_self ..)
        show (if m = g then (m, u) :: ns.zip xs else (m, y) :: putF g u (ns.zip xs)) = _
        rw [if_neg hm, ih xs (by simpa using h) fun z => hn (List.mem_cons_of_mem _ z)]
        rfl
  refine ⟨l, C, dx, _, rfl, g1, c, na, ?_, ?_⟩
  · rw [List.length_zip, g2, g3.length', Nat.min_self, ← g3.length']; exact hlen
  · rw [hz ns xs hx hg]
    have up := l2.same
    have z := st0_other (H' := upd H2 l (.ins C dx ((ns ++ [g]).zip (xs ++ [u])))) (c' := .ins C (ns ++ [g]) (rs ++ [r])) s2 hl hc (fun z => by cases z) (fun z => by cases z) (fun b o hb e => by rw [upd_ne hb]; exact e) (by rw [upd_same]; exact fun z => by cases z) ⟨dx, xs ++ [u], upd_same, by simp [g2], by
      have em : F.g ls2 own2 (upd H2 l (.ins C dx ((ns ++ [g]).zip (xs ++ [u])))) = F.g ls2 own2 H2 := msk_upd_in (List.mem_append_right _ (live_get hl hc fun z => by cases z))
      rw [em]
      exact Paired.snoc g3 (rr.up l2.pre l2.same)⟩
    exact k.nx _ _ _ ρ σ ((l1.trans l2).trans z.2) z.1 (sr.up ((l1.trans l2).trans z.2).pre ((l1.trans l2).trans z.2).same) q
end
end DL

namespace DL
open PySem PySem.Spec PyProof.Rows L2

/-! ### new cells, cells that are given up -/
section
variable {K : PySem.W.Frag} {F : Fm} {ls : List Addr} {own : List Cell} {H H' : Hp}
theorem st0_adopt (st : St0 K F ls own H) (sm : Same H H') {p : Addr} {c : Cell} (hp : H p = none) (hc : c ≠ .gone) (at' : CellAt K (ls ++ [p]) (msk (F.S0 ++ live ls own ++ [p]) H') H' p c) : St0 K F (ls ++ [p]) (own ++ [c]) H' ∧ Le F ls own H (ls ++ [p]) (own ++ [c]) H' := by
  have el : F.g (ls ++ [p]) (own ++ [c]) H' = msk (F.S0 ++ live ls own ++ [p]) H' := by
    show msk (F.S0 ++ live (ls ++ [p]) (own ++ [c])) H' = _
    rw [live_snoc st.len hc, List.append_assoc]
  have hid : p ∉ F.S0 ++ live ls own := fun z => (st.hid p z).ne hp
  have sg : Same (F.g ls own H) (msk (F.S0 ++ live ls own ++ [p]) H') := fun b o e => by
    have hb : b ≠ p := fun z => by
      subst z
      have := msk_same _ _ _ _ e
      rw [hp] at this; cases this
    have e : msk (F.S0 ++ live ls own) H b = some o := e
    unfold msk at e ⊢
    split at e
    · cases e
    · rename_i hn
      rw [if_neg (by rw [List.mem_append, List.mem_singleton]; exact fun z => z.elim hn hb)]
      exact sm b o e
  have h0 : F.H0 p = none := by
    cases q : F.H0 p with
    | none => rfl
    | some o => exact absurd hp (st.dom p (by rw [q]; exact fun z => by cases z))
  have pn : p ∉ ls := fun z => st.there p z hp
  refine ⟨⟨by rw [List.length_append, List.length_append, st.len]; rfl, ?_, fun l hl => ?_, fun j b c1 e1 e2 => ?_, fun b o hb e => sm _ _ (st.keep b o hb e), fun b hb => ?_, fun b hb => (st.s0 b hb).up (sm b), fun b hb => ?_, st.ap.trans (List.prefix_append _ _), st.as.trans (by rw [el]; exact sg)⟩, ⟨List.prefix_append _ _, by rw [el]; exact sg⟩⟩
  · rw [List.nodup_append]
    exact ⟨st.nd, by simp, fun a ha b hb => by rw [List.mem_singleton.mp hb]; exact fun z => pn (z ▸ ha)⟩
  · rcases List.mem_append.mp hl with h | h
    · exact st.new l h
    · rw [List.mem_singleton.mp h]
      exact ⟨fun z => hid (List.mem_append_left _ z), .inl h0⟩
  · rw [el]
    by_cases hj : j < own.length
    · rw [List.getElem?_append_left hj] at e2
      rw [List.getElem?_append_left (by rw [st.len]; exact hj)] at e1
      exact (st.at_ j b c1 e1 e2).up (List.prefix_append _ _) sg fun o e => sm _ _ e
    · rw [List.getElem?_append_right (by omega)] at e2
      rw [List.getElem?_append_right (by rw [st.len]; omega), st.len] at e1
      cases q : j - own.length with
      | zero =>
        rw [q] at e1 e2
        simp at e1 e2
        subst e1; subst e2
        exact at'
      | succ n => rw [q] at e1; simp at e1
  · have := st.dom b hb
    cases q : H b with
    | none => exact absurd q this
    | some o => rw [sm b o q]; exact fun z => by cases z
  · rcases List.mem_append.mp hb with h | h
    · have := st.there b h
      cases q : H b with
      | none => exact absurd q this
      | some o => rw [sm b o q]; exact fun z => by cases z
    · rw [List.mem_singleton.mp h]
      cases c with
      | gone => exact absurd rfl hc
      | lst rs => obtain ⟨xs, e, _⟩ := at'; rw [e]; exact fun z => by cases z
      | ins C ns rs => obtain ⟨dx, xs, e, _⟩ := at'; rw [e]; exact fun z => by cases z
      | any P => obtain ⟨xs, ds, e, _⟩ := at'; rw [e]; exact fun z => by cases z
      | dct ks rs => obtain ⟨xs, e, _⟩ := at'; rw [e]; exact fun z => by cases z
      | tab q' => obtain ⟨ps, e, _⟩ := at'; rw [e]; exact fun z => by cases z
/-- a list that no longer changes: data from now on -/
def subR (n : Nat) (d : D) : R → R
  | .c k => if k = n then .d d else .c k
  | .d x => .d x
theorem live_gone : ∀ {ls : List Addr} {own : List Cell} {n : Nat} {l : Addr}, ls.Nodup → ls[n]? = some l → l ∉ live ls (own.set n .gone)
  | [], _, _, _, _, h => by simp at h
  | a :: ls, [], n, l, _, _ => by simp [live]
  | a :: ls, e :: own, 0, l, nd, h => by
    simp at h
    subst h
    simp only [List.set_cons_zero, live]
    exact fun z => (List.nodup_cons.mp nd).1 (live_mem z)
  | a :: ls, e :: own, n + 1, l, nd, h => by
    have ih := live_gone (ls := ls) (own := own) (n := n) (l := l) (List.nodup_cons.mp nd).2 (by simpa using h)
    have hal : l ≠ a := fun z => (List.nodup_cons.mp nd).1 (z ▸ List.mem_of_getElem? (by simpa using h))
    simp only [List.set_cons_succ]
    cases e <;> simp only [live, List.mem_cons, not_or]
    · exact ih
    all_goals exact ⟨hal, ih⟩
theorem live_gone_le : ∀ {ls : List Addr} {own : List Cell} {n : Nat} {b : Addr}, b ∈ live ls (own.set n .gone) → b ∈ live ls own
  | [], _, _, _, h => by simp [live] at h
  | a :: ls, [], n, b, h => by simpa using h
  | a :: ls, e :: own, 0, b, h => by
    simp only [List.set_cons_zero, live] at h
    cases e <;> simp only [live, List.mem_cons]
    · exact h
    all_goals exact .inr h
  | a :: ls, e :: own, n + 1, b, h => by
    simp only [List.set_cons_succ] at h
    cases e <;> simp only [live, List.mem_cons] at h ⊢
    · exact live_gone_le h
    all_goals exact h.imp id live_gone_le
theorem st0_freeze (st : St0 K F ls own H) {n : Nat} {ds : List D} (hc : own[n]? = some (.lst (ds.map R.d))) : St0 K F ls (own.set n .gone) H ∧ Le F ls own H ls (own.set n .gone) H ∧
    ∀ {r : R} {v : V}, RRep K ls (F.g ls own H) r v → RRep K ls (F.g ls (own.set n .gone) H) (subR n (.lst ds) r) v := by
  have sg : Same (F.g ls own H) (F.g ls (own.set n .gone) H) := msk_le fun b hb => by
    rcases List.mem_append.mp hb with h | h
    · exact List.mem_append_left _ h
    · exact List.mem_append_right _ (live_gone_le h)
  refine ⟨⟨by rw [List.length_set]; exact st.len, st.nd, st.new, fun j b c e1 e2 => ?_, st.keep, st.dom, st.s0, st.there, st.ap, st.as.trans sg⟩, ⟨List.prefix_rfl, sg⟩, fun {r v} h => ?_⟩
  · by_cases hj : n = j
    · subst hj
      have hlt : n < own.length := (List.getElem?_eq_some_iff.mp hc).1
      rw [List.getElem?_set_self hlt] at e2
      cases e2
      exact True.intro
    · rw [List.getElem?_set_ne hj] at e2
      exact (st.at_ j b c e1 e2).up List.prefix_rfl sg fun o e => e
  · cases r with
    | d x => exact Rep.mono sg h
    | c k =>
      obtain ⟨l, hl, rfl⟩ := h
      by_cases hk : k = n
      · subst hk
        obtain ⟨xs, g1, g2⟩ := st.at_ k l _ hl hc
        simp only [subR, if_true, RRep, Rep]
        refine ⟨l, xs, rfl, ?_, Reps.mono sg (RReps.toD g2)⟩
        show msk (F.S0 ++ live ls (own.set k .gone)) H l = _
        rw [msk_out]
        · exact g1
        · rw [List.mem_append]
          exact fun z => z.elim (st.new l (List.mem_of_getElem? hl)).1 (live_gone st.nd hl)
      · simp only [subR, if_neg hk]
        exact ⟨l, hl, rfl⟩
end

section
variable {X : Cx} {F : Fm} {own : List Cell} {ρ : Ro} {Q : QE} {P : Po} {e b iter tg : Expr} {es : List Expr} {pos : Pos} {st : Stmt} {sts body rest : List Stmt}
theorem srep_freeze {n : Nat} {d : D} {K ls G G'} (h : ∀ {r : R} {v : V}, RRep K ls G r v → RRep K ls G' (subR n d r) v) : ∀ {ρ : Ro} {σ : L2.St}, SRep K ls G ρ σ → SRep K ls G' (ρ.map (Option.map (subR n d))) σ
  | _, _, .nil => .nil
  | _, _, .cons (a := a) (b := b) q t => .cons (by
      cases a with
      | none => exact True.intro
      | some r => cases b with
        | none => exact q.elim
        | some v => exact h q) (srep_freeze h t)
theorem W.freeze (n : Nat) {ds : List D} (hc : own[n]? = some (.lst (ds.map R.d))) (h : W X F sts P (own.set n .gone) (ρ.map (Option.map (subR n (.lst ds))))) : W X F sts P own ρ := by
  constructor
  intro ls σ H s0 sr De k
  obtain ⟨a, b, c⟩ := st0_freeze s0 hc
  exact h ls σ H a (srep_freeze c sr) De (k.up b)
/-- what is known of a cell is opened -/
theorem W.openC (n : Nat) {I : List D → Prop} (hc : own[n]? = some (.any I)) (h : ∀ ds, I ds → W X F sts P (own.set n (.lst (ds.map R.d))) ρ) : W X F sts P own ρ := by
  constructor
  intro ls σ H s0 sr De k
  have hn : n < ls.length := by rw [s0.len]; exact (List.getElem?_eq_some_iff.mp hc).1
  have hl : ls[n]? = some ls[n] := List.getElem?_eq_getElem hn
  obtain ⟨xs, ds, g1, g2, g3⟩ := s0.at_ n _ _ hl hc
  have z := st0_other (c' := .lst (ds.map R.d)) s0 hl hc (fun z => by cases z) (fun z => by cases z) (fun b o _ e => e) (by rw [g1]; exact fun z => by cases z) ⟨xs, g1, RReps.ofD g2⟩
  exact h ds g3 ls σ H z.1 (sr.up z.2.pre z.2.same) De (k.up z.2)
/-- .. and closed again -/
theorem W.closeC (n : Nat) {I : List D → Prop} {ds : List D} (hc : own[n]? = some (.lst (ds.map R.d))) (hi : I ds) (h : W X F sts P (own.set n (.any I)) ρ) : W X F sts P own ρ := by
  constructor
  intro ls σ H s0 sr De k
  have hn : n < ls.length := by rw [s0.len]; exact (List.getElem?_eq_some_iff.mp hc).1
  have hl : ls[n]? = some ls[n] := List.getElem?_eq_getElem hn
  obtain ⟨xs, g1, g2⟩ := s0.at_ n _ _ hl hc
  have z := st0_other (c' := .any I) s0 hl hc (fun z => by cases z) (fun z => by cases z) (fun b o _ e => e) (by rw [g1]; exact fun z => by cases z) ⟨xs, ds, g1, RReps.toD g2, hi⟩
  exact h ls σ H z.1 (sr.up z.2.pre z.2.same) De (k.up z.2)
/-- a written list that will change: a new cell -/
theorem E.lstC (h : A X F es (fun o rs => rs.length ≤ sizeLine ∧ Q (o ++ [.lst rs]) (.c o.length)) own ρ) : E X F (.List es pos) Q own ρ := by
  constructor
  intro ls σ H s0 sr Qv k
  refine (pe_lst pa_wa).to ?_
  refine h ls σ H s0 sr _ fun ls1 own1 H1 rs vs l1 s1 rr ⟨hl, q⟩ => ?_
  refine ⟨by rw [← rr.length']; exact hl, fun p hp => ?_⟩
  have em : msk (F.S0 ++ live ls1 own1 ++ [p]) (upd H1 p (.lst vs)) = msk (F.S0 ++ live ls1 own1) H1 := by
    rw [msk_upd_in (List.mem_append_right _ (List.mem_singleton.mpr rfl))]
    funext c
    unfold msk
    by_cases hc : c = p
    · subst hc
      rw [if_pos (List.mem_append_right _ (List.mem_singleton.mpr rfl))]
      split
      · rfl
      · exact hp.symm
    · simp only [List.mem_append, List.mem_singleton, hc, or_false]
  have z := st0_adopt (c := .lst rs) s1 (same_new (o := .lst vs) hp) hp (fun z => by cases z) ⟨vs, upd_same, by rw [em]; exact rr.up (List.prefix_append _ _) (Same.refl _)⟩
  exact k _ _ _ (.c own1.length) _ (l1.trans z.2) z.1 ⟨p, by rw [← s1.len]; simp, rfl⟩ q
/-- list(x) that will change -/
theorem Cl.listC {ds : List D} (h : Q (own ++ [.lst (ds.map R.d)]) (.c own.length)) : Cl X F (.type "list") [.d (.lst ds)] Q own := by
  constructor
  intro ls H vs s1 rr Qv k
  obtain ⟨v, rfl, rv⟩ := rrs1 rr
  obtain ⟨a, xs, rfl, hs, hr⟩ := lst_rr rv
  refine call_list_of.to ⟨a, xs, rfl, .inl (sq_h hs), fun p hp => ?_⟩
  have em : msk (F.S0 ++ live ls own ++ [p]) (upd H p (.lst xs)) = msk (F.S0 ++ live ls own) H := by
    rw [msk_upd_in (List.mem_append_right _ (List.mem_singleton.mpr rfl))]
    funext c
    unfold msk
    by_cases hc : c = p
    · subst hc
      rw [if_pos (List.mem_append_right _ (List.mem_singleton.mpr rfl))]
      split
      · rfl
      · exact hp.symm
    · simp only [List.mem_append, List.mem_singleton, hc, or_false]
  have z := st0_adopt (c := .lst (ds.map R.d)) s1 (same_new (o := .lst xs) hp) hp (fun z => by cases z) ⟨xs, upd_same, by rw [em]; exact RReps.ofD hr⟩
  exact k _ _ _ (.c own.length) _ z.2 z.1 ⟨p, by rw [← s1.len]; simp, rfl⟩ h
/-- x.append(e), x a cell -/
theorem E.append {apos cpos : Pos} {o : Expr} (h : E X F o (fun o1 t => ∃ n, t = .c n ∧ E X F e (fun o2 r => ∃ rs, o2[n]? = some (.lst rs) ∧ rs.length < sizeLine ∧ Q (o2.set n (.lst (rs ++ [r]))) (.d .non)) o1 ρ ∧ ∃ rs, o1[n]? = some (.lst rs)) own ρ)
    (hbase : attributeBase o "append" X.env (eval o X.env) = eval o X.env := by rfl)
    (hfew : ((backTo cpos (starEach [e] X.env)).all (fun x => !x.1) && (backToKw cpos (keywordEach [] X.env)).all (fun x => x.1.isSome)
      && decide ([e].length + ([] : List Keyword).length + (if ([] : List Keyword).isEmpty then 0 else 1) < 30)) = true := by rfl)
    (hline : (apos.endLine == cpos.line) = true := by rfl) (hs : starEach [e] X.env = (false, eval e X.env) :: starEach [] X.env := by rfl) (hplain : (backTo cpos (starEach [] X.env)).any (·.1) = false := by rfl) : E X F (.Call (.Attribute o "append" apos) [e] [] cpos) Q own ρ := by
  constructor
  intro ls σ H s0 sr Qv k
  refine (pe_bm PySem.F.plainAttrs_list PySem.F.slot_list_append PySem.F.type_list_append mt_append pe_we (pa_cons pe_we pa_nil hs) hbase hfew hline hs hplain).to ?_
  refine h ls σ H s0 sr _ fun ls1 own1 H1 t u l1 s1 rt ⟨n, et, he, rs0, hc0⟩ => ?_
  subst et
  obtain ⟨l, hl, rfl⟩ := rt
  obtain ⟨xs0, g0, _⟩ := s1.at_ n l _ hl hc0
  refine ⟨.inl ⟨rfl, _, .inl (.inl g0)⟩, ?_⟩
  refine he ls1 σ H1 s1 (sr.up l1.pre l1.same) _ fun ls2 own2 H2 r v l2 s2 rr ⟨rs, hc, hz, q⟩ => ?_
  have hl2 := pre_get l2.pre hl
  obtain ⟨xs, g1, g2⟩ := s2.at_ n l _ hl2 hc
  refine ⟨l, xs, v, rfl, rfl, g1, by rw [← g2.length']; exact hz, ?_⟩
  have em : F.g ls2 own2 (upd H2 l (.lst (xs ++ [v]))) = F.g ls2 own2 H2 := msk_upd_in (List.mem_append_right _ (live_get hl2 hc fun z => by cases z))
  have z := st0_other (H' := upd H2 l (.lst (xs ++ [v]))) (c' := .lst (rs ++ [r])) s2 hl2 hc (fun z => by cases z) (fun z => by cases z) (fun b o hb e => by rw [upd_ne hb]; exact e) (by rw [upd_same]; exact fun z => by cases z) ⟨xs ++ [v], upd_same, by rw [em]; exact Paired.snoc g2 rr⟩
  exact k _ _ _ (.d .non) _ ((l1.trans l2).trans z.2) z.1 ir_non q
/-- a[i] = e, a a cell -/
theorem W1.setIx {a : Expr} {p2 : Pos} (h : E X F e (fun o1 r => E X F a (fun o2 t => E X F b (fun o3 i => ∃ n k j rs, t = .c n ∧ i = .d (.int k) ∧ o3[n]? = some (.lst rs) ∧ ixN rs.length k = some j ∧ P.nx (o3.set n (.lst (rs.set j r))) ρ) o2 ρ) o1 ρ) own ρ)
    (ha : ∀ v, assign (.Subscript a b p2) X.env v = (do
      let ov ← holding [v] (eval a X.env)
      let iv ← holding [v, ov] (eval b X.env)
      standAt p2
      holding [v, ov, iv] (setItem ov iv v)
      release [v, ov, iv] []) := by intro _; rfl)
    (hs : swapsWithSole [.Subscript a b p2] e pos.line X.env = pure false := by rfl) (hw : swappedStores [.Subscript a b p2] e X.env = pure none := by rfl)
    (h1 : (assignEach [.Subscript a b p2] X.env).map (·.2) = [assign (.Subscript a b p2) X.env] := by rfl) : W1 X F (.Assign [.Subscript a b p2] e pos) P own ρ := by
  constructor
  intro ls σ H s0 sr De k
  refine (ps_asg pe_we (pg_sub pe_we pe_we set_list ha) hs hw h1).to ?_
  refine h ls σ H s0 sr _ fun ls1 own1 H1 r v l1 s1 rr he => ?_
  refine he ls1 σ H1 s1 (sr.up l1.pre l1.same) _ fun ls2 own2 H2 t u l2 s2 rt he => ?_
  refine he ls2 σ H2 s2 (sr.up (l1.trans l2).pre (l1.trans l2).same) _ fun ls3 own3 H3 i y l3 s3 ri ⟨n, kk, j, rs, et, ei, hc, hj, q⟩ => ?_
  subst et; subst ei
  cases rr_int ri
  obtain ⟨l, hl, rfl⟩ := rt.up l3.pre l3.same
  obtain ⟨xs, g1, g2⟩ := s3.at_ n l _ hl hc
  refine ⟨l, xs, kk, j, rfl, rfl, g1, by rw [← g2.length']; exact hj, ?_⟩
  have em : F.g ls3 own3 (upd H3 l (.lst (xs.set j v))) = F.g ls3 own3 H3 := msk_upd_in (List.mem_append_right _ (live_get hl hc fun z => by cases z))
  have setP : ∀ {rs : List R} {xs : List V} (j : Nat) {r : R} {v : V} {K ls G}, RRep K ls G r v → RReps K ls G rs xs → RReps K ls G (rs.set j r) (xs.set j v) := by
    intro rs xs j r v K ls G h t
    induction t generalizing j with
    | nil => exact .nil
    | cons a t ih => cases j with
      | zero => exact .cons h t
      | succ j => exact .cons a (ih j)
  have z := st0_other (H' := upd H3 l (.lst (xs.set j v))) (c' := .lst (rs.set j r)) s3 hl hc (fun z => by cases z) (fun z => by cases z) (fun b o hb e => by rw [upd_ne hb]; exact e) (by rw [upd_same]; exact fun z => by cases z) ⟨xs.set j v, upd_same, by rw [em]; exact setP j (rr.up (l2.trans l3).pre (l2.trans l3).same) g2⟩
  have le := ((l1.trans l2).trans l3).trans z.2
  exact k.nx _ _ _ ρ σ le z.1 (sr.up le.pre le.same) q

/-! ### targets -/
structure Tg (X : Cx) (F : Fm) (tg : Expr) (r : R) (Q : List Cell → Ro → Prop) (own : List Cell) (ρ : Ro)  : Prop where
  mk :: (run : ∀ ls σ H v, St0 X.K F ls own H → SRep X.K ls (F.g ls own H) ρ σ → RRep X.K ls (F.g ls own H) r v → ∀ Qs : L2.St → Hp → Prop,
    (∀ ls' own' H' ρ' σ', Le F ls own H ls' own' H' → St0 X.K F ls' own' H' → SRep X.K ls' (F.g ls' own' H') ρ' σ' → Q own' ρ' → Qs σ' H') → wpg X tg v σ H Qs)
instance {X : Cx} {F : Fm} {tg : Expr} {r : R} {Q : List Cell → Ro → Prop} {own : List Cell} {ρ : Ro}  : CoeFun (Tg X F tg r Q own ρ) (fun _ => ∀ ls σ H v, St0 X.K F ls own H → SRep X.K ls (F.g ls own H) ρ σ → RRep X.K ls (F.g ls own H) r v → ∀ Qs : L2.St → Hp → Prop,
    (∀ ls' own' H' ρ' σ', Le F ls own H ls' own' H' → St0 X.K F ls' own' H' → SRep X.K ls' (F.g ls' own' H') ρ' σ' → Q own' ρ' → Qs σ' H') → wpg X tg v σ H Qs) := ⟨Tg.run⟩
theorem pg_w {tg : Expr} : PG X tg (wpg X tg) := ⟨fun pins s σ H v u Q I r h => h pins s u I r⟩
theorem _root_.L2.PG.to {tg : Expr} {t : TG} {v : V} {σ : L2.St} {H : Hp} {Q : L2.St → Hp → Prop} (p : PG X tg t) (h : t v σ H Q) : wpg X tg v σ H Q := fun pins s u I r => p.run pins s σ H v u Q I r h
theorem Tg.name (i : Nat) {x : Str} {r : R} {Q : List Cell → Ro → Prop} (h : Q own (ρ.set i (some r))) (hN : X.N.Nodup) (hi : X.N[i]? = some x := by rfl) (hx : Loc X.env.scope x := by first | exact Or.inl rfl | exact Or.inr rfl) (hf : X.fn x = true ∨ X.env.scope.names.lookup x = some .local := by first | exact .inl rfl | exact .inr rfl | assumption) : Tg X F (.Name x pos) r Q own ρ := by
  constructor
  intro ls σ H v s0 sr rv Qs k
  exact (pg_name hN hi hx hf).to (k _ _ _ _ _ Le.refl s0 (SRep.set rv i sr) h)
def wpgs (X : Cx) (ts : List Expr) : TGs := fun vs σ H Q => ∀ pins s us, Inv X pins σ H s → Vals vs us → wpAny (model X.prog X.w) X.A (assignInOrder ((assignEach ts X.env).map (·.2)) us) (fun _ s' => ∃ σ' H', Inv X pins σ' H' s' ∧ Q σ' H') X.xe s
theorem pgs_w {ts : List Expr} : PGs X ts (wpgs X ts) := ⟨fun pins s σ H v u Q I r h => h pins s u I r⟩
theorem _root_.L2.PGs.to {ts : List Expr} {t : TGs} {v : List V} {σ : L2.St} {H : Hp} {Q : L2.St → Hp → Prop} (p : PGs X ts t) (h : t v σ H Q) : wpgs X ts v σ H Q := fun pins s u I r => p.run pins s σ H v u Q I r h
structure Tgs (X : Cx) (F : Fm) (tgs : List Expr) (rs : List R) (Q : List Cell → Ro → Prop) (own : List Cell) (ρ : Ro)  : Prop where
  mk :: (run : ∀ ls σ H vs, St0 X.K F ls own H → SRep X.K ls (F.g ls own H) ρ σ → RReps X.K ls (F.g ls own H) rs vs → ∀ Qs : L2.St → Hp → Prop,
    (∀ ls' own' H' ρ' σ', Le F ls own H ls' own' H' → St0 X.K F ls' own' H' → SRep X.K ls' (F.g ls' own' H') ρ' σ' → Q own' ρ' → Qs σ' H') → wpgs X tgs vs σ H Qs)
instance {X : Cx} {F : Fm} {tgs : List Expr} {rs : List R} {Q : List Cell → Ro → Prop} {own : List Cell} {ρ : Ro}  : CoeFun (Tgs X F tgs rs Q own ρ) (fun _ => ∀ ls σ H vs, St0 X.K F ls own H → SRep X.K ls (F.g ls own H) ρ σ → RReps X.K ls (F.g ls own H) rs vs → ∀ Qs : L2.St → Hp → Prop,
    (∀ ls' own' H' ρ' σ', Le F ls own H ls' own' H' → St0 X.K F ls' own' H' → SRep X.K ls' (F.g ls' own' H') ρ' σ' → Q own' ρ' → Qs σ' H') → wpgs X tgs vs σ H Qs) := ⟨Tgs.run⟩
theorem Tgs.nil {Q : List Cell → Ro → Prop} (h : Q own ρ) : Tgs X F [] [] Q own ρ := .mk fun ls σ H vs s0 sr rr Qs k => by
  cases rr
  exact pgs_nil.to ⟨rfl, k _ _ _ _ _ Le.refl s0 sr h⟩
theorem Tgs.cons {tgs : List Expr} {r : R} {rs : List R} {Q : List Cell → Ro → Prop} (h : Tg X F tg r (fun o ρ' => Tgs X F tgs rs Q o ρ') own ρ) (hs : (assignEach (tg :: tgs) X.env).map (·.2) = assign tg X.env :: (assignEach tgs X.env).map (·.2) := by rfl) : Tgs X F (tg :: tgs) (r :: rs) Q own ρ := by
  constructor
  intro ls σ H vs s0 sr rr Qs k
  cases rr with
  | cons r0 rr =>
    refine (pgs_cons pg_w pgs_w hs).to ⟨_, _, rfl, ?_⟩
    refine h ls σ H _ s0 sr r0 _ fun ls1 own1 H1 ρ1 σ1 l1 s1 sr1 q => ?_
    exact q ls1 σ1 H1 _ s1 sr1 (RReps.up l1.pre l1.same rr) Qs fun _ _ _ _ _ l => k _ _ _ _ _ (l1.trans l)
theorem Tg.tup {tgs : List Expr} {k0 : Nat} {ds : List D} {Q : List Cell → Ro → Prop} (hc : X.calm = true) (h : Tgs X F tgs (ds.map R.d) Q own ρ) (hl : ds.length = tgs.length) (hn : (assignEach tgs X.env).length = tgs.length := by rfl) (hst : (assignEach tgs X.env).findIdx? (·.1) = none := by rfl) : Tg X F (.Tuple tgs k0 pos) (.d (.tup ds)) Q own ρ := by
  constructor
  intro ls σ H v s0 sr rv Qs k
  obtain ⟨p, xs, rfl, hs, hr⟩ := tup_rr rv
  refine (pg_tup hc pgs_w hn hst).to ⟨p, xs, rfl, Same.seqT (msk_same _ _) hs, by rw [← hr.length]; exact hl, ?_⟩
  exact h ls σ H xs s0 sr (RReps.ofD hr) Qs k
/-- a, b = e -/
theorem W1.asg (h : E X F e (fun o r => Tg X F tg r P.nx o ρ) own ρ) (hs : swapsWithSole [tg] e pos.line X.env = pure false := by rfl) (hw : swappedStores [tg] e X.env = pure none := by rfl)
    (h1 : (assignEach [tg] X.env).map (·.2) = [assign tg X.env] := by rfl) : W1 X F (.Assign [tg] e pos) P own ρ := by
  constructor
  intro ls σ H s0 sr De k
  refine (ps_asg pe_we pg_w hs hw h1).to ?_
  refine h ls σ H s0 sr _ fun ls1 own1 H1 r v l1 s1 rr q => ?_
  exact q ls1 σ H1 v s1 (sr.up l1.pre l1.same) rr _ fun _ _ _ ρ' σ' l s r q => k.nx _ _ _ _ _ (l1.trans l) s r q

/-! ### loops -/
/-- a loop's state -/
def Pv (X : Cx) (F : Fm) (ls : List Addr) (own : List Cell) (H : Hp) (I : Nat → List Cell → Ro → Prop) (i : Nat) (σ : L2.St) (H' : Hp) : Prop :=
  ∃ ls' own' ρ', Le F ls own H ls' own' H' ∧ St0 X.K F ls' own' H' ∧ SRep X.K ls' (F.g ls' own' H') ρ' σ ∧ I i own' ρ'
theorem for_gen {K : PySem.W.Frag} {a : Addr} {n : Nat} {g : TG} {tb : TS} {De : Ends} {σ : L2.St} {H : Hp} (Pv : Nat → L2.St → Hp → Prop) (h0 : Pv 0 σ H) (hl : ∀ i σ H, Pv i σ H → ∃ xs, SqL K H a xs ∧ xs.length = n)
    (hs : ∀ i x σ H xs, i < n → SqL K H a xs → xs[i]? = some x → (∀ ys, SqL K H a ys → ys[i]? = some x) → Pv i σ H → g x σ H fun σ2 H2 => tb { De with nx := Pv (i + 1), ct := Pv (i + 1), bk := De.nx } σ2 H2) (hd : ∀ σ H, Pv n σ H → De.nx σ H) :
    ∃ W : Nat → Nat → L2.St → Hp → Prop, (∃ m, W 0 m σ H) ∧ ∀ i m σ H, W i m σ H →
      ((Itl K a).stop i H ∧ De.nx σ H) ∨ ((Itl K a).go i H ∧ ∃ N : L2.St → Hp → Prop, (∀ σ' H', N σ' H' → ∃ m', m' < m ∧ W (i + 1) m' σ' H') ∧ ∀ x H', (Itl K a).yld i H x H' → g x σ H' fun σ2 H2 => tb { De with nx := N, ct := N, bk := De.nx } σ2 H2) := by
  refine ⟨fun i m σ H => m = n - i ∧ i ≤ n ∧ Pv i σ H, ⟨n, by simp, Nat.zero_le _, h0⟩, ?_⟩
  rintro i m σ H ⟨rfl, hi, p⟩
  obtain ⟨xs, q, ln⟩ := hl i σ H p
  by_cases hlt : i < n
  · refine .inr ⟨⟨xs, xs[i]'(by rw [ln]; exact hlt), q, by simp [ln, hlt]⟩, Pv (i + 1), fun σ' H' p' => ⟨n - (i + 1), by omega, rfl, hlt, p'⟩, fun x H' y => ?_⟩
    obtain ⟨e, y⟩ := y
    subst e
    exact hs i x σ _ xs hlt q (y xs q) y p
  · have e : i = n := by omega
    subst e
    exact .inl ⟨⟨xs, q, by rw [ln]; exact Nat.le_refl _⟩, hd σ H p⟩
/-- for x in a list that stands still -/
theorem W1.forL (I : Nat → List Cell → Ro → Prop) (hc : X.calm = true) (hp : PassesOwn (model X.prog X.w) X.A X.env X.xe)
    (h : E X F iter (fun o r => ∃ ds, (r = .d (.lst ds) ∨ r = .d (.rol ds)) ∧ I 0 o ρ ∧ (∀ i d o' ρ', ds[i]? = some d → I i o' ρ' → Tg X F tg (.d d) (fun o2 ρ2 => W X F body { nx := I (i + 1), rt := P.rt, bk := P.nx, ct := I (i + 1) } o2 ρ2) o' ρ') ∧ ∀ o' ρ', I ds.length o' ρ' → P.nx o' ρ') own ρ)
    (hs : ∀ x, foldedSetIterable iter X.env x = pure x := by intro _; rfl) : W1 X F (.For tg iter body [] pos) P own ρ := by
  constructor
  intro ls σ H s0 sr De k
  refine (ps_for hp hc (pi_list pe_we) pg_w pss_ws hs).to ?_
  refine h ls σ H s0 sr _ fun ls1 own1 H1 r v l1 s1 rr ⟨ds, er, i0, turn, fin⟩ => ?_
  obtain ⟨p, xs, rfl, hq, hr⟩ : ∃ p xs, v = .ref p ∧ SqL X.K (F.g ls1 own1 H1) p xs ∧ Reps X.K (F.g ls1 own1 H1) ds xs := by
    rcases er with rfl | rfl
    · obtain ⟨p, xs, e, g1, g2⟩ := lst_rr rr
      exact ⟨p, xs, e, .inl (.inl g1), g2⟩
    · simpa only [RRep, Rep] using rr
  refine ⟨p, rfl, ⟨xs, (msk_same _ _).seq hq⟩, ?_⟩
  refine for_gen (n := ds.length) (Pv X F ls1 own1 H1 I) ⟨ls1, own1, ρ, Le.refl, s1, sr.up l1.pre l1.same, i0⟩ (fun i σ' H' ⟨_, _, _, l, _⟩ => ⟨xs, (msk_same _ _).seq (l.same.seq hq), hr.length.symm⟩) ?_ ?_
  · rintro i x σ' H' _ hi _ _ hall ⟨ls2, own2, ρ2, l2, s2, sr2, ii⟩
    have hx := hall xs ((msk_same _ _).seq (l2.same.seq hq))
    have hdi : ds[i]? = some ds[i] := List.getElem?_eq_getElem hi
    obtain ⟨y, e1, e2⟩ := hr.get hdi
    rw [hx] at e1
    cases e1
    refine turn i _ own2 ρ2 hdi ii ls2 σ' H' x s2 sr2 (Rep.mono l2.same e2) _ fun ls3 own3 H3 ρ3 σ3 l3 s3 sr3 q => ?_
    exact q ls3 σ3 H3 s3 sr3 _ ⟨fun _ _ _ _ _ l s r q => ⟨_, _, _, (l2.trans l3).trans l, s, r, q⟩, fun _ _ _ _ _ l s r q => k.rt _ _ _ _ _ (l1.trans ((l2.trans l3).trans l)) s r q, fun _ _ _ _ _ l s r q => k.nx _ _ _ _ _ (l1.trans ((l2.trans l3).trans l)) s r q, fun _ _ _ _ _ l s r q => ⟨_, _, _, (l2.trans l3).trans l, s, r, q⟩⟩
  · rintro σ' H' ⟨ls2, own2, ρ2, l2, s2, sr2, ii⟩
    exact k.nx _ _ _ _ _ (l1.trans l2) s2 sr2 (fin _ _ ii)
/-- for x in a cell that the loop leaves as it is -/
theorem W1.forC (I : Nat → List Cell → Ro → Prop) (hc : X.calm = true) (hp : PassesOwn (model X.prog X.w) X.A X.env X.xe)
    (h : E X F iter (fun o r => ∃ n rs, r = .c n ∧ o[n]? = some (.lst rs) ∧ I 0 o ρ ∧ (∀ i o' ρ', I i o' ρ' → o'[n]? = some (.lst rs)) ∧ (∀ i d o' ρ', rs[i]? = some d → I i o' ρ' → Tg X F tg d (fun o2 ρ2 => W X F body { nx := I (i + 1), rt := P.rt, bk := P.nx, ct := I (i + 1) } o2 ρ2) o' ρ') ∧ ∀ o' ρ', I rs.length o' ρ' → P.nx o' ρ') own ρ)
    (hs : ∀ x, foldedSetIterable iter X.env x = pure x := by intro _; rfl) : W1 X F (.For tg iter body [] pos) P own ρ := by
  constructor
  intro ls σ H s0 sr De k
  refine (ps_for hp hc (pi_list pe_we) pg_w pss_ws hs).to ?_
  refine h ls σ H s0 sr _ fun ls1 own1 H1 r v l1 s1 rr ⟨n, rs, er, hcell, i0, stay, turn, fin⟩ => ?_
  subst er
  obtain ⟨p, hl, rfl⟩ := rr
  obtain ⟨xs, g1, g2⟩ := s1.at_ n p _ hl hcell
  refine ⟨p, rfl, ⟨xs, .inl (.inl g1)⟩, ?_⟩
  refine for_gen (n := rs.length) (Pv X F ls1 own1 H1 I) ⟨ls1, own1, ρ, Le.refl, s1, sr.up l1.pre l1.same, i0⟩ (fun i σ' H' ⟨ls2, own2, _, l, s2, _, ii⟩ => ?_) ?_ ?_
  · obtain ⟨ys, e1, e2⟩ := s2.at_ n p _ (pre_get l.pre hl) (stay _ _ _ ii)
    exact ⟨ys, .inl (.inl e1), e2.length'.symm⟩
  · rintro i x σ' H' _ hi _ _ hall ⟨ls2, own2, ρ2, l2, s2, sr2, ii⟩
    obtain ⟨ys, f1, f2⟩ := s2.at_ n p _ (pre_get l2.pre hl) (stay _ _ _ ii)
    have hx := hall ys (.inl (.inl f1))
    have hdi : rs[i]? = some rs[i] := List.getElem?_eq_getElem hi
    obtain ⟨y, e1, e2⟩ := f2.get' hdi
    rw [hx] at e1
    cases e1
    refine turn i _ own2 ρ2 hdi ii ls2 σ' H' x s2 sr2 e2 _ fun ls3 own3 H3 ρ3 σ3 l3 s3 sr3 q => ?_
    exact q ls3 σ3 H3 s3 sr3 _ ⟨fun _ _ _ _ _ l s r q => ⟨_, _, _, (l2.trans l3).trans l, s, r, q⟩, fun _ _ _ _ _ l s r q => k.rt _ _ _ _ _ (l1.trans ((l2.trans l3).trans l)) s r q, fun _ _ _ _ _ l s r q => k.nx _ _ _ _ _ (l1.trans ((l2.trans l3).trans l)) s r q, fun _ _ _ _ _ l s r q => ⟨_, _, _, (l2.trans l3).trans l, s, r, q⟩⟩
  · rintro σ' H' ⟨ls2, own2, ρ2, l2, s2, sr2, ii⟩
    exact k.nx _ _ _ _ _ (l1.trans l2) s2 sr2 (fin _ _ ii)
/-- for x in a tuple -/
theorem W1.forT (I : Nat → List Cell → Ro → Prop) (hc : X.calm = true) (hp : PassesOwn (model X.prog X.w) X.A X.env X.xe)
    (h : E X F iter (fun o r => ∃ ds, r = .d (.tup ds) ∧ I 0 o ρ ∧ (∀ i d o' ρ', ds[i]? = some d → I i o' ρ' → Tg X F tg (.d d) (fun o2 ρ2 => W X F body { nx := I (i + 1), rt := P.rt, bk := P.nx, ct := I (i + 1) } o2 ρ2) o' ρ') ∧ ∀ o' ρ', I ds.length o' ρ' → P.nx o' ρ') own ρ)
    (hs : ∀ x, foldedSetIterable iter X.env x = pure x := by intro _; rfl) : W1 X F (.For tg iter body [] pos) P own ρ := by
  constructor
  intro ls σ H s0 sr De k
  refine (ps_for hp hc (pi_tup pe_we) pg_w pss_ws hs).to ?_
  refine h ls σ H s0 sr _ fun ls1 own1 H1 r v l1 s1 rr ⟨ds, er, i0, turn, fin⟩ => ?_
  subst er
  obtain ⟨p, xs, rfl, hq, hr⟩ := tup_rr rr
  refine ⟨p, rfl, ⟨xs, Same.seqT (msk_same _ _) hq⟩, ?_⟩
  refine for_tup (xs := xs) (Pv X F ls1 own1 H1 I) ⟨ls1, own1, ρ, Le.refl, s1, sr.up l1.pre l1.same, i0⟩ (fun i σ' H' _ ⟨_, _, _, l, _⟩ => Same.seqT (msk_same _ _) (Same.seqT l.same hq)) ?_ ?_
  · rintro i x σ' H' hx ⟨ls2, own2, ρ2, l2, s2, sr2, ii⟩
    have hi : i < ds.length := by rw [hr.length]; exact (List.getElem?_eq_some_iff.mp hx).1
    have hdi : ds[i]? = some ds[i] := List.getElem?_eq_getElem hi
    obtain ⟨y, e1, e2⟩ := hr.get hdi
    rw [hx] at e1
    cases e1
    refine turn i _ own2 ρ2 hdi ii ls2 σ' H' x s2 sr2 (Rep.mono l2.same e2) _ fun ls3 own3 H3 ρ3 σ3 l3 s3 sr3 q => ?_
    exact q ls3 σ3 H3 s3 sr3 _ ⟨fun _ _ _ _ _ l s r q => ⟨_, _, _, (l2.trans l3).trans l, s, r, q⟩, fun _ _ _ _ _ l s r q => k.rt _ _ _ _ _ (l1.trans ((l2.trans l3).trans l)) s r q, fun _ _ _ _ _ l s r q => k.nx _ _ _ _ _ (l1.trans ((l2.trans l3).trans l)) s r q, fun _ _ _ _ _ l s r q => ⟨_, _, _, (l2.trans l3).trans l, s, r, q⟩⟩
  · rintro σ' H' ⟨ls2, own2, ρ2, l2, s2, sr2, ii⟩
    rw [← hr.length] at ii
    exact k.nx _ _ _ _ _ (l1.trans l2) s2 sr2 (fin _ _ ii)
/-- for x in range(n) -/
theorem W1.forR {a : Expr} {p0 p1 : Pos} (I : Nat → List Cell → Ro → Prop) (hm : X.mg "range" = none) (hc : X.calm = true) (hp : PassesOwn (model X.prog X.w) X.A X.env X.xe)
    (h : E X F a (fun o r => ∃ m : Int, r = .d (.int m) ∧ (-(2 ^ 62) ≤ m ∧ m < 2 ^ 62) ∧ I 0 o ρ ∧ (∀ i o' ρ', i < m.toNat → I i o' ρ' → Tg X F tg (.d (.int (i : Int))) (fun o2 ρ2 => W X F body { nx := I (i + 1), rt := P.rt, bk := P.nx, ct := I (i + 1) } o2 ρ2) o' ρ') ∧ ∀ o' ρ', I m.toNat o' ρ' → P.nx o' ρ') own ρ)
    (hg : Gl X "range" := by rfl) (hst : starEach [a] X.env = [(false, eval a X.env)] := by rfl) (hs : ∀ x, foldedSetIterable (.Call (.Name "range" p0) [a] [] p1) X.env x = pure x := by intro _; rfl) : W1 X F (.For tg (.Call (.Name "range" p0) [a] [] p1) body [] pos) P own ρ := by
  constructor
  intro ls σ H s0 sr De k
  refine (ps_for hp hc (pi_range1 hg hm (pa_cons pe_we pa_nil hst) hst) pg_w pss_ws hs).to ?_
  refine h ls σ H s0 sr _ fun ls1 own1 H1 r v l1 s1 rr ⟨m, er, hb, i0, turn, fin⟩ => ?_
  subst er
  cases rr_int rr
  refine ⟨m, rfl, hb.1, hb.2, ?_⟩
  refine for_range (lo := 0) (n := m.toNat) (Pv X F ls1 own1 H1 I) ⟨ls1, own1, ρ, Le.refl, s1, sr.up l1.pre l1.same, i0⟩ ?_ ?_
  · rintro i σ' H' hi ⟨ls2, own2, ρ2, l2, s2, sr2, ii⟩
    rw [Int.zero_add]
    refine turn i own2 ρ2 hi ii ls2 σ' H' _ s2 sr2 ir_int _ fun ls3 own3 H3 ρ3 σ3 l3 s3 sr3 q => ?_
    exact q ls3 σ3 H3 s3 sr3 _ ⟨fun _ _ _ _ _ l s r q => ⟨_, _, _, (l2.trans l3).trans l, s, r, q⟩, fun _ _ _ _ _ l s r q => k.rt _ _ _ _ _ (l1.trans ((l2.trans l3).trans l)) s r q, fun _ _ _ _ _ l s r q => k.nx _ _ _ _ _ (l1.trans ((l2.trans l3).trans l)) s r q, fun _ _ _ _ _ l s r q => ⟨_, _, _, (l2.trans l3).trans l, s, r, q⟩⟩
  · rintro σ' H' ⟨ls2, own2, ρ2, l2, s2, sr2, ii⟩
    exact k.nx _ _ _ _ _ (l1.trans l2) s2 sr2 (fin _ _ ii)
/-- while -/
theorem W1.while {c : Expr} (I : List Cell → Ro → Prop) (μ : List Cell → Ro → Nat) (hp : PassesOwn (model X.prog X.w) X.A X.env X.xe) (h0 : I own ρ)
    (turn : ∀ o r, I o r → T X F c (fun o2 k => if k = true then W X F body { nx := fun o3 r3 => I o3 r3 ∧ μ o3 r3 < μ o r, rt := P.rt, bk := P.nx, ct := fun o3 r3 => I o3 r3 ∧ μ o3 r3 < μ o r } o2 r else P.nx o2 r) o r) : W1 X F (.While c body [] pos) P own ρ := by
  constructor
  intro ls σ H s0 sr De k
  refine (ps_while hp pt_wt pss_ws).to ?_
  refine ⟨fun m σ' H' => ∃ ls' own' ρ', Le F ls own H ls' own' H' ∧ St0 X.K F ls' own' H' ∧ SRep X.K ls' (F.g ls' own' H') ρ' σ' ∧ I own' ρ' ∧ m = μ own' ρ', ⟨_, ls, own, ρ, Le.refl, s0, sr, h0, rfl⟩, ?_⟩
  rintro m σ' H' ⟨ls1, own1, ρ1, l1, s1, sr1, i1, rfl⟩
  refine turn own1 ρ1 i1 ls1 σ' H' s1 sr1 _ fun ls2 own2 H2 b l2 s2 q => ?_
  cases b with
  | false => exact iteF (k.nx _ _ _ _ _ (l1.trans l2) s2 (sr1.up l2.pre l2.same) q)
  | true =>
    refine iteT ⟨fun σ3 H3 => ∃ ls' own' ρ', Le F ls own H ls' own' H3 ∧ St0 X.K F ls' own' H3 ∧ SRep X.K ls' (F.g ls' own' H3) ρ' σ3 ∧ I own' ρ' ∧ μ own' ρ' < μ own1 ρ1, fun σ3 H3 ⟨a, b, c, d, e, f, g, i⟩ => ⟨_, i, a, b, c, d, e, f, g, rfl⟩, ?_⟩
    exact (show W X F body _ own2 ρ1 from q) ls2 σ' H2 s2 (sr1.up l2.pre l2.same) _ ⟨fun _ _ _ _ _ l s r q => ⟨_, _, _, (l1.trans l2).trans l, s, r, q.1, q.2⟩, fun _ _ _ _ _ l s r q => k.rt _ _ _ _ _ ((l1.trans l2).trans l) s r q, fun _ _ _ _ _ l s r q => k.nx _ _ _ _ _ ((l1.trans l2).trans l) s r q, fun _ _ _ _ _ l s r q => ⟨_, _, _, (l1.trans l2).trans l, s, r, q.1, q.2⟩⟩
end
end DL

/-! ### operators of classes of the text, at the library's level -/
namespace DL.Own
open PySem PySem.W PySem.Calls PyProof.Rows
section
variable {prog : Program} {w : World} {A : Around} {E : Value → Shared → Prop} {s : Shared} {K : Frag} {x C L f : Addr} {h₀ : Heap} {m : Str → Option Value} {od : Option Obj} {dx : Addr} {i : Int} {t : Tok}
/-- what a built-in says of an instance: it does not know it -/
def Decl (prog : Program) (w : World) (B : Builtin) (i : Int) (t : Tok) (x : Addr) (C dx : Addr) : Prop := ∀ (A : Around) (s : Shared) (Q : Fin → Shared → Prop) (E : Value → Shared → Prop), s.heap.get? x = some (instObj C dx) → Q (.done (.ret .notImplemented)) s → wpAny (model prog w) A (B ⟨[.int i t, .ref x], []⟩) Q E s
theorem decl_bin {name : String} {fn : Int → Int → Sem Fin} : Decl prog w (Builtin.Int.intBinary name fn false) i t x C dx := by
  intro A s Q E ho h
  unfold Builtin.Int.intBinary
  refine wpAny_bind (m := slotArgs name 1 _) (wpAny_pure ?_)
  refine wpAny_bind (m := Builtin.Int.intOfSelf _) (wpAny_pure ?_)
  refine wpAny_bind (m := asInt? _) (wpAny_bind (wpAny_load ho (wpAny_pure ?_)))
  refine wpAny_bind (wpAny_rule (wpAny_pure h))
theorem decl_add : Decl prog w Builtin.«int.__add__» i t x C dx := decl_bin
theorem decl_sub : Decl prog w Builtin.«int.__sub__» i t x C dx := decl_bin
theorem decl_mul : Decl prog w Builtin.«int.__mul__» i t x C dx := decl_bin
theorem decl_eq : Decl prog w Builtin.«int.__eq__» i t x C dx := decl_bin
/-- an int's operator over an instance declines -/
theorem int_declines {nm idl : String} {B : Builtin} {Q : Option Value → Shared → Prop} (ho : s.heap.get? x = some (instObj C dx)) (slot : Slot "int" (PySem.dunder nm) idl) (entry : entryFor table idl = some B) (args : argsOk idl ⟨[.int i t, .ref x], []⟩) (g : Decl prog w B i t x C dx) (h : Q none s) :
    wpAny (model prog w) A (tryMethod (.int i t) (PySem.dunder nm) (.ref x)) Q E s := by
  refine wpAny_tryMethod_declines (typeIs_int s i t) slot ?_
  refine wpAny_call (codeAny_call_builtin slot.plain entry (slot.check _ _ _ _ _ _ _ _ (typeIs_int s i t) args ?_))
  exact g _ _ _ _ ho ⟨rfl, h⟩
set_option maxHeartbeats 2000000 in
theorem rbin_K {op : Operator} {idl : String} {B : Builtin} {g0 : Addr} {Q : Value → Shared → Prop} (F : Fr h₀ L s.heap m) (X₀ : K.In h₀) (I : InstAt s.heap x (instObj C dx) C od) (hc : selfFirst K C = true)
    (h0 : findIn K (.ref C) (PySem.dunder op.info.2) = some (some (.ref g0))) (hs : findIn K (.ref C) (dunderR op.info.2) = some (some (.ref f))) (hf : isFn K (.ref f) = true)
    (hfill : fillsNumberSlot (.type "int") op.info.2 = pure true) (slot : Slot "int" (PySem.dunder op.info.2) idl) (entry : entryFor table idl = some B) (args : argsOk idl ⟨[.int i t, .ref x], []⟩) (dc : Decl prog w B i t x C dx)
    (hsub : subIn K (.ref C) (.type "int") = some false)
    (h : wpAny (model prog w) A (call (.ref f) [.ref x, .int i t]) (PySem.W.CmpBack Q) E s) : wpAny (model prog w) A (binaryOp op (.int i t) (.ref x)) Q E s := by
  have X := X₀.keeps F.keep
  obtain ⟨cd, rest, hcd, hm⟩ := ksp_first hc
  rcases hi : op.info with ⟨sym, nm'⟩
  rw [hi] at h0 hs hfill slot
  dsimp only at h0 hs hfill slot
  have one := ksp_try X I hs hf h
  have two : ∀ {Q' : Option Value → Shared → Prop}, Q' none s → wpAny (model prog w) A (tryMethod (.int i t) (PySem.dunder nm') (.ref x)) Q' E s := fun q => int_declines I.at_ slot entry args dc q
  obtain ⟨hh, g, d, tt, os⟩ := s
  have L1 : Looks (model prog w) hh (typeOf (.ref x)) (.ref C) := I.type
  have L2 : Looks (model prog w) hh (typeOf (.int i t)) (.type "int") := Looks.of_pure rfl
  have L3 : Looks (model prog w) hh (fillsNumberSlot (.ref C) nm') true := fills_K X hcd hm h0
  have L4 : Looks (model prog w) hh (fillsNumberSlot (.type "int") nm') true := Looks.of_pure hfill
  have L5 : Looks (model prog w) hh (isSubtype (.ref C) (.type "int")) false := looks_subIn X hsub
  have L7 : Looks (model prog w) hh (numberSlotInPython (.type "int") nm') false := Looks.of_pure rfl
  have hne : (Value.type "int" == Value.ref C) = false := Bool.eq_false_iff.mpr fun q => by cases beq_iff_eq.mp q
  simp only [binaryOp, hi]
  refine wpAny_holding (wpAny_bind ?_)
  unfold binaryOp1
  refine wpAny_bind (L2.at (wpAny_bind (L1.at (wpAny_bind (L4.at ?_)))))
  simp only [hne, Bool.false_eq_true, if_false]
  ksp_lk
  refine two ?_
  ksp_lk
  refine wpAny_mono one (fun r s' hr' => ?_) fun _ _ e => e
  obtain ⟨v, rfl, hq⟩ := hr'
  ksp_lk
  exact hq
set_option maxHeartbeats 2000000 in
/-- int == instance: the instance's own == -/
theorem req_K {Q : Value → Shared → Prop} (hu : A.units < cLine) (F : Fr h₀ L s.heap m) (X₀ : K.In h₀) (I : InstAt s.heap x (instObj C dx) C od) (hs : findIn K (.ref C) "__eq__" = some (some (.ref f))) (hf : isFn K (.ref f) = true) (hsub : subIn K (.ref C) (.type "int") = some false)
    (h : wpAny (model prog w) A (call (.ref f) [.ref x, .int i t]) (PySem.W.CmpBack Q) E s) : wpAny (model prog w) A (richCompare .Eq (.int i t) (.ref x)) Q E s := by
  have X := X₀.keeps F.keep
  have one : wpAny (model prog w) A (tryCompare (.ref x) "__eq__" (.int i t)) (fun r s' => ∃ v, r = some v ∧ Q v s') E s := by
    unfold tryCompare
    refine wpAny_bind (ifBound_K X I hs hf (wpAny_mono h (fun v s' hv => ?_) fun _ _ e => e))
    cases v <;> first | exact hv.elim | exact wpAny_pure ⟨_, rfl, hv⟩
  have two : ∀ {Q' : Option Value → Shared → Prop}, Q' none s → wpAny (model prog w) A (tryCompare (.int i t) "__eq__" (.ref x)) Q' E s := fun {Q'} q => by
    unfold tryCompare
    refine wpAny_bind (wpAny_callSpecialIfBound?_slot (typeIs_int s i t) PySem.F.slot_int_eq (wpAny_call (codeAny_call_builtin PySem.F.slot_int_eq.plain PySem.F.entry_int_eq (PySem.F.slot_int_eq.check _ _ _ _ _ _ _ _ (typeIs_int s i t) (PySem.F.args_int_eq_2 _ _) ?_))))
    exact decl_eq _ _ _ _ I.at_ (wpAny_pure q)
  unfold richCompare
  refine wpAny_holding (wpAny_bind (wpAny_cRoomFor hu ?_))
  have eo : oneThing? .Eq (.int i t) (.ref x) = none := by rfl
  rw [eo]
  have hne : (Value.type "int" != Value.ref C) = true := by
    rw [bne, Bool.not_eq_true']
    exact Bool.eq_false_iff.mpr fun q => by cases beq_iff_eq.mp q
  have L1 : Looks (model prog w) s.heap (typeOf (.ref x)) (.ref C) := I.type
  have L2 : Looks (model prog w) s.heap (typeOf (.int i t)) (.type "int") := Looks.of_pure rfl
  refine wpAny_bind (L2.here (wpAny_bind (L1.here ?_)))
  rw [hne]
  simp only [if_true]
  refine wpAny_bind ((looks_subIn X hsub).here ?_)
  simp only [Bool.false_eq_true, if_false, Bool.not_false, if_true]
  refine wpAny_bind (two ?_)
  refine wpAny_bind (wpAny_mono one (fun r s' z => ?_) fun _ _ e => e)
  obtain ⟨v, rfl, hq⟩ := z
  exact wpAny_pure hq
set_option maxHeartbeats 2000000 in
/-- instance != anything, by object's own __ne__: not the instance's own == -/
theorem rne_K {b tb : Value} {Q : Value → Shared → Prop} (hu : A.units + 1 < cLine) (F : Fr h₀ L s.heap m) (X₀ : K.In h₀) (I : InstAt s.heap x (instObj C dx) C od) (hb : Looks (model prog w) s.heap (typeOf b) tb) (hn : notFirst K C tb = true)
    (hs : findIn K (.ref C) "__eq__" = some (some (.ref f))) (hne : findIn K (.ref C) "__ne__" = some (some (.builtin "object.__ne__"))) (hf : isFn K (.ref f) = true) (hobj : subIn K (.ref C) (.type "object") = some true)
    (h : wpAny (model prog w) A.in1 (call (.ref f) [.ref x, b]) (fun v s' => ∃ r, v = .bool r ∧ Q (.bool (!r)) s') E s) : wpAny (model prog w) A (richCompare .NotEq (.ref x) b) Q E s := by
  have X := X₀.keeps F.keep
  have L1 : Looks (model prog w) s.heap (typeOf (.ref x)) (.ref C) := I.type
  have body : ∀ {Q' : Fin → Shared → Prop} {E' : Value → Shared → Prop}, wpAny (model prog w) A.in1 (call (.ref f) [.ref x, b]) (fun v s' => ∃ r, v = .bool r ∧ Q' (.done (.ret (.bool (!r)))) s') E' s → wpAny (model prog w) A.in1 (Builtin.«object.__ne__» ⟨[.ref x, b], []⟩) Q' E' s := fun {Q' E'} h => by
    unfold Builtin.«object.__ne__»
    refine wpAny_bind (m := slotArgs "__ne__" 1 _) (wpAny_pure ?_)
    refine wpAny_bind (wpAny_cRoomFor hu ?_)
    refine wpAny_bind (ifBound_K X I hs hf (wpAny_mono h (fun v s' hv => ?_) fun _ _ e => e))
    obtain ⟨r, rfl, hq⟩ := hv
    refine wpAny_bind (m := truthy (.bool r)) (wpAny_truthy_bool ?_)
    exact wpAny_pure hq
  have one : wpAny (model prog w) A (tryCompare (.ref x) "__ne__" b) (fun r s' => ∃ v, r = some v ∧ Q v s') E s := by
    unfold tryCompare
    refine wpAny_bind ?_
    simp only [callSpecialIfBound?, bindSpecialIfBound?]
    refine wpAny_holding (wpAny_bind (wpAny_bind (wpAny_bind (L1.here ((looks_findIn X hne).here ?_)))))
    have hbind : bindSpecial (.builtin "object.__ne__") (.ref x) = pure (.builtin "object.__ne__", [.ref x]) := by with_unfolding_all rfl
    simp only [hbind]
    have fin : wpAny (model prog w) A (call (.builtin "object.__ne__") ([.ref x] ++ [b]) >>= fun v => pure (some v)) (fun r s' => wpAny (model prog w) A (match r with | some .notImplemented | none => pure none | some v => pure (some v)) (fun r s' => ∃ v, r = some v ∧ Q v s') E s') E s := by
      refine wpAny_bind (wpAny_call (codeAny_call_builtin (by with_unfolding_all decide +kernel) PySem.F.cmpEntry_ne (check_slot PySem.F.cmpKind_ne PySem.F.cmpSplit_ne (L1.andThen (looks_subIn X hobj)) (PySem.F.cmpArgs_ne _ _) ?_)))
      refine body (wpAny_mono h (fun v s' hv => ?_) fun _ _ e => e)
      obtain ⟨r, rfl, hq⟩ := hv
      exact ⟨r, rfl, wpAny_pure (wpAny_pure ⟨_, rfl, hq⟩)⟩
    refine wpAny_bind (wpAny_askSetting (wpAny_ite ?_))
    split
    · exact wpAny_bind (wpAny_pure (wpAny_pure (by exact fin)))
    · exact wpAny_tryCatch (wpAny_bind (wpAny_pure (wpAny_pure (by exact fin))))
  unfold richCompare
  simp only [oneThing_ref]
  refine wpAny_holding (wpAny_bind (wpAny_cRoomFor (Nat.lt_of_succ_lt hu) ?_))
  refine wpAny_bind (L1.here (wpAny_bind (hb.here ?_)))
  split
  · rename_i q
    have e : subIn K tb (.ref C) = some false := by
      rcases Bool.or_eq_true_iff.mp hn with e | e
      · rw [beq_iff_eq.mp e] at q; simp at q
      · exact beq_iff_eq.mp e
    refine wpAny_bind ((looks_subIn X e).here ?_)
    simp only [Bool.false_eq_true, if_false]
    refine wpAny_bind (wpAny_mono one (fun r s' z => ?_) fun _ _ e => e)
    obtain ⟨v, rfl, hq⟩ := z
    exact wpAny_pure hq
  · refine wpAny_bind (wpAny_pure ?_)
    simp only [Bool.false_eq_true, if_false]
    refine wpAny_bind (wpAny_mono one (fun r s' z => ?_) fun _ _ e => e)
    obtain ⟨v, rfl, hq⟩ := z
    exact wpAny_pure hq
/-- abs(instance) -/
theorem abs_K {Q : Value → Shared → Prop} (F : Fr h₀ L s.heap m) (X₀ : K.In h₀) (I : InstAt s.heap x (instObj C dx) C od) (hs : findIn K (.ref C) "__abs__" = some (some (.ref f))) (hf : isFn K (.ref f) = true)
    (h : wpAny (model prog w) A.in1 (call (.ref f) [.ref x]) Q E s) : wpAny (model prog w) A (call (.builtin "abs") [.ref x]) Q E s := by
  refine Calls.call_function_entry kind_abs plain_abs entry_abs (args_abs _) ?_
  unfold Builtin.«abs»
  refine wpAny_bind (m := oneArg "abs" _) (wpAny_pure ?_)
  refine wpAny_bind (m := callSpecial? (.ref x) (Str.ofString "__abs__")) (special_fn (X₀.keeps F.keep) I hs (beq_iff_eq.mp hf) (wpAny_mono h (fun r s' hr => ?_) fun _ _ y => y))
  exact wpAny_pure ⟨_, rfl, hr⟩
end
end DL.Own

namespace DL
open PySem PySem.Spec PyProof.Rows L2
/-! ### operators of classes of the text, over data -/
section
variable {X : Cx} {F : Fm} {own : List Cell} {ρ : Ro} {Q : QE} {QT : QT} {k : Nat} {f C : Addr} {fd : FuncData} {ps : List Str} {pre : List D → Prop} {post : List D → D → Prop} {i : Int}
/-- a def runs below the body -/
theorem run_at {A : Around} {pins : List (Addr × Obj)} {σ : L2.St} {H : Hp} {s : Shared} {Qv : VK} {us : List Value} {vs : List V} {sp : Sp} (G : FnOk X.prog X.w X.K X.mg X.base CX0 k f fd ps sp) (hfr : A.frames = X.A.frames) (hr : Room k A) (hb : Binds X.K fd ps []) (I : Inv X pins σ H s) (r : Vals vs us) (h : sp vs H Qv E0) :
    wpAny (model X.prog X.w) A (call (.ref f) us) (EP X pins σ Qv) X.xe s := by
  have e0 : Env0 X.prog X.w X.K X.mg X.base A X.stack s H := by
    have e := I.env0
    exact ⟨by rw [hfr]; exact e.frames, e.mod, e.bs, e.bsz, e.funs, e.frf, e.hok, e.bare⟩
  have hl : us.length = ps.length := by rw [← r.length]; exact G.len _ _ _ _ h
  refine wpAny_call (codeAny_mono (G.run A X.stack s H ⟨us, []⟩ us vs Qv E0 hr e0 (by
    have := hb s us I.kIn (by simpa using hl)
    simpa using this) r h) fun r s' hq => ?_)
  cases r with
  | error e => exact hq.elim
  | ok fl =>
    cases fl with
    | ret w => exact I.after hq
    | next => exact False.elim hq
    | brk => exact False.elim hq
    | cont => exact False.elim hq
theorem ep_back {pins : List (Addr × Obj)} {σ : L2.St} {Qv : VK} {u : Value} {s : Shared} (h : EP X pins σ Qv u s) : PySem.W.CmpBack (EP X pins σ Qv) u s := by
  obtain ⟨v, H', I, r, q⟩ := h
  cases v with
  | non => cases r; exact ⟨.non, H', I, rfl, q⟩
  | bl b => cases r; exact ⟨.bl b, H', I, rfl, q⟩
  | int i => obtain ⟨t, rfl⟩ := r; exact ⟨.int i, H', I, ⟨t, rfl⟩, q⟩
  | str i => obtain ⟨t, rfl⟩ := r; exact ⟨.str i, H', I, ⟨t, rfl⟩, q⟩
  | byt i => obtain ⟨t, rfl⟩ := r; exact ⟨.byt i, H', I, ⟨t, rfl⟩, q⟩
  | flt i => obtain ⟨t, rfl⟩ := r; exact ⟨.flt i, H', I, ⟨t, rfl⟩, q⟩
  | ref i => cases r; exact ⟨.ref i, H', I, rfl, q⟩
  | ty i => cases r; exact ⟨.ty i, H', I, rfl, q⟩
theorem ins_at {ls own H v ns ds} (st : St0 X.K F ls own H) (rv : RRep X.K ls (F.g ls own H) (.d (.ins C ns ds)) v) : ∃ a dx fs, v = .ref a ∧ H a = some (.ins C dx fs) := by
  obtain ⟨a, dx, xs, rfl, e, _⟩ := ins_rr rv
  exact ⟨a, dx, _, rfl, msk_same _ _ _ _ e⟩
variable {ns ns' : List Str} {ds ds' : List D} {op : Operator}
/-- x op y, both instances of the class -/
theorem O2.ownB (hc : PySem.W.selfFirst X.K C = true) (hs : PySem.W.findIn X.K (.ref C) (PySem.dunder op.info.2) = some (some (.ref f))) (hf : PySem.W.isFn X.K (.ref f) = true) (G : FnOk X.prog X.w X.K X.mg X.base CX0 k f fd ps (spF X.K pre post)) (hr : Room k X.A) (hb : Binds X.K fd ps [])
    (hp : pre [.ins C ns ds, .ins C ns' ds']) (h : ∀ d, post [.ins C ns ds, .ins C ns' ds'] d → Q own (.d d)) : O2 X F (.bin op) (.d (.ins C ns ds)) (.d (.ins C ns' ds')) Q own := by
  constructor
  intro ls H u v st rx ry Qv kk pins σ s uu vv I ru rv
  obtain ⟨a, dx, fs, rfl, ha⟩ := ins_at st rx
  obtain ⟨b, dy, gs, rfl, hb'⟩ := ins_at st ry
  cases ru; cases rv
  obtain ⟨mA, J, _⟩ := ins_get I.hok ha
  obtain ⟨mB, J', _⟩ := ins_get I.hok hb'
  obtain ⟨od, J, _⟩ := J.look
  obtain ⟨od', J', _⟩ := J'.look
  obtain ⟨m, hF⟩ := I.fr
  refine PySem.W.binop_K hF I.ok.mod.kin J J'.type hc hs hf ?_
  exact thn (run_at (vs := [.ref a, .ref b]) G rfl hr hb I (.cons rfl (.cons rfl .nil)) (spF_use st (Reps.cons rx (Reps.cons ry Reps.nil)) hp kk h _)) fun u s q => ep_back q
/-- x op n, an instance and an int -/
theorem O2.ownI {fo ro rc : Option Value} (hc : PySem.W.selfFirst X.K C = true) (hs : PySem.W.findIn X.K (.ref C) (PySem.dunder op.info.2) = some (some (.ref f))) (hf : PySem.W.isFn X.K (.ref f) = true) (hR : PySem.W.findIn X.K (.ref C) (dunderR op.info.2) = some rc) (hP : rc = none ∨ ∃ g : Addr, rc = some (.ref g))
    (h1 : PySem.W.findIn X.K (.type "int") (PySem.dunder op.info.2) = some fo) (h2 : PySem.W.findIn X.K (.type "int") (dunderR op.info.2) = some ro) (hsub : PySem.W.subIn X.K (.type "int") (.ref C) = some false)
    (G : FnOk X.prog X.w X.K X.mg X.base CX0 k f fd ps (spF X.K pre post)) (hr : Room k X.A) (hb : Binds X.K fd ps [])
    (hp : pre [.ins C ns ds, .int i]) (h : ∀ d, post [.ins C ns ds, .int i] d → Q own (.d d)) : O2 X F (.bin op) (.d (.ins C ns ds)) (.d (.int i)) Q own := by
  constructor
  intro ls H u v st rx ry Qv kk pins σ s uu vv I ru rv
  obtain ⟨a, dx, fs, rfl, ha⟩ := ins_at st rx
  cases rr_int ry
  cases ru
  obtain ⟨t, rfl⟩ := rv
  obtain ⟨mA, J, _⟩ := ins_get I.hok ha
  obtain ⟨od, J, _⟩ := J.look
  obtain ⟨m, hF⟩ := I.fr
  refine PySem.W.ksp_binT hF I.ok.mod.kin J rfl hc hs hf hR hP h1 h2 hsub ?_
  exact thn (run_at (vs := [.ref a, .int i]) G rfl hr hb I (.cons rfl (.cons ⟨_, rfl⟩ .nil)) (spF_use st (Reps.cons rx (Reps.cons ry Reps.nil)) hp kk h _)) fun u s q => ep_back q
/-- n op x, an int and an instance -/
theorem O2.ownR {idl : String} {B : Builtin} {g0 : Addr} (hc : PySem.W.selfFirst X.K C = true) (h0 : PySem.W.findIn X.K (.ref C) (PySem.dunder op.info.2) = some (some (.ref g0))) (hs : PySem.W.findIn X.K (.ref C) (dunderR op.info.2) = some (some (.ref f))) (hf : PySem.W.isFn X.K (.ref f) = true)
    (hfill : fillsNumberSlot (.type "int") op.info.2 = pure true) (slot : Slot "int" (PySem.dunder op.info.2) idl) (entry : entryFor table idl = some B) (args : ∀ i t x, argsOk idl ⟨[.int i t, .ref x], []⟩) (dc : ∀ i t x dx, Own.Decl X.prog X.w B i t x C dx)
    (hsub : PySem.W.subIn X.K (.ref C) (.type "int") = some false)
    (G : FnOk X.prog X.w X.K X.mg X.base CX0 k f fd ps (spF X.K pre post)) (hr : Room k X.A) (hb : Binds X.K fd ps [])
    (hp : pre [.ins C ns ds, .int i]) (h : ∀ d, post [.ins C ns ds, .int i] d → Q own (.d d)) : O2 X F (.bin op) (.d (.int i)) (.d (.ins C ns ds)) Q own := by
  constructor
  intro ls H u v st rx ry Qv kk pins σ s uu vv I ru rv
  obtain ⟨a, dx, fs, rfl, ha⟩ := ins_at st ry
  cases rr_int rx
  cases rv
  obtain ⟨t, rfl⟩ := ru
  obtain ⟨mA, J, _⟩ := ins_get I.hok ha
  obtain ⟨od, J, _⟩ := J.look
  obtain ⟨m, hF⟩ := I.fr
  refine Own.rbin_K hF I.ok.mod.kin J hc h0 hs hf hfill slot entry (args _ _ _) (dc _ _ _ _) hsub ?_
  exact thn (run_at (vs := [.ref a, .int i]) G rfl hr hb I (.cons rfl (.cons ⟨_, rfl⟩ .nil)) (spF_use st (Reps.cons ry (Reps.cons rx Reps.nil)) hp kk h _)) fun u s q => ep_back q
/-- -x -/
theorem O1.ownN (hs : PySem.W.findIn X.K (.ref C) "__neg__" = some (some (.ref f))) (hf : PySem.W.isFn X.K (.ref f) = true) (G : FnOk X.prog X.w X.K X.mg X.base CX0 k f fd ps (spF X.K pre post)) (hr : Room k X.A) (hb : Binds X.K fd ps [])
    (hp : pre [.ins C ns ds]) (h : ∀ d, post [.ins C ns ds] d → Q own (.d d)) : O1 X F .USub (.d (.ins C ns ds)) Q own := by
  constructor
  intro ls H u st rx Qv kk pins σ s uu I ru
  obtain ⟨a, dx, fs, rfl, ha⟩ := ins_at st rx
  cases ru
  obtain ⟨mA, J, _⟩ := ins_get I.hok ha
  obtain ⟨od, J, _⟩ := J.look
  obtain ⟨m, hF⟩ := I.fr
  refine PySem.W.ksp_neg hF I.ok.mod.kin J hs hf ?_
  exact run_at (vs := [.ref a]) G rfl hr hb I (.cons rfl .nil) (spF_use st (Reps.cons rx Reps.nil) hp kk h _)
/-- abs(x) -/
theorem Cl.absO (hs : PySem.W.findIn X.K (.ref C) "__abs__" = some (some (.ref f))) (hf : PySem.W.isFn X.K (.ref f) = true) (G : FnOk X.prog X.w X.K X.mg X.base CX0 k f fd ps (spF X.K pre post)) (hr : Room (k + 1) X.A) (hb : Binds X.K fd ps [])
    (hp : pre [.ins C ns ds]) (h : ∀ d, post [.ins C ns ds] d → Q own (.d d)) : Cl X F (.builtin "abs") [.d (.ins C ns ds)] Q own := by
  constructor
  intro ls H vs st rr Qv kk pins σ s us I ru
  obtain ⟨v, rfl, rx⟩ := rrs1 rr
  obtain ⟨a, dx, fs, rfl, ha⟩ := ins_at st rx
  obtain ⟨u, rfl, ru1⟩ := Vals.one ru
  obtain rfl : u = Value.ref a := ru1
  obtain ⟨mA, J, _⟩ := ins_get I.hok ha
  obtain ⟨od, J, _⟩ := J.look
  obtain ⟨m, hF⟩ := I.fr
  refine Own.abs_K hF I.ok.mod.kin J hs hf ?_
  exact run_at (vs := [.ref a]) G rfl hr.in1 hb I (.cons rfl .nil) (spF_use st (Reps.cons rx Reps.nil) hp kk h _)
/-- a truth by __bool__ -/
theorem Tr.ownT (hs : PySem.W.findIn X.K (.ref C) "__bool__" = some (some (.ref f))) (hf : PySem.W.isFn X.K (.ref f) = true) (G : FnOk X.prog X.w X.K X.mg X.base CX0 k f fd ps (spF X.K pre post)) (hr : Room k X.A) (hb : Binds X.K fd ps [])
    (hp : pre [.ins C ns ds]) (h : ∀ d, post [.ins C ns ds] d → ∃ b, d = .bl b ∧ QT own b) : Tr X F (.d (.ins C ns ds)) QT own := by
  constructor
  intro ls H u st rx Qb kk pins σ s uu I ru
  obtain ⟨a, dx, fs, rfl, ha⟩ := ins_at st rx
  cases ru
  obtain ⟨mA, J, _⟩ := ins_get I.hok ha
  obtain ⟨od, J, _⟩ := J.look
  obtain ⟨m, hF⟩ := I.fr
  refine PySem.W.truthy_K hF I.ok.mod.kin J hs hf ?_
  refine thn (run_at (vs := [.ref a]) G rfl hr hb I (.cons rfl .nil) (spF_use (Q := fun o r => ∃ b, r = .d (.bl b) ∧ QT o b) st (Reps.cons rx Reps.nil) hp (Qv := fun v H' => ∃ b, v = .bl b ∧ Qb b H') (fun ls' own' H' r v l s1 rr ⟨b, e, q⟩ => by subst e; exact ⟨b, rr_bl rr, kk _ _ _ b l s1 q⟩) (fun d hd => by obtain ⟨b, rfl, q⟩ := h d hd; exact ⟨b, rfl, q⟩) _)) fun u s q => ?_
  obtain ⟨v, H', I', r, b, rfl, q⟩ := q
  cases r
  exact ⟨H', I', q⟩
/-- bool(x) of such -/
theorem mro_nothing : True := trivial
/-- x == y by __eq__ -/
theorem O2.ownEq {y : D} {tb : Value} (hty : ∀ (ls : List Addr) (own : List Cell) (H : Hp) (v : V) (pins : List (Addr × Obj)) (σ : L2.St) (s : Shared) (u : Value), RRep X.K ls (F.g ls own H) (.d y) v → Inv X pins σ H s → RelV v u → PySem.W.Looks (model X.prog X.w) s.heap (typeOf u) tb) (hn : PySem.W.notFirst X.K C tb = true)
    (hs : PySem.W.findIn X.K (.ref C) "__eq__" = some (some (.ref f))) (hf : PySem.W.isFn X.K (.ref f) = true) (G : FnOk X.prog X.w X.K X.mg X.base CX0 k f fd ps (spF X.K pre post)) (hr : Room k X.A) (hb : Binds X.K fd ps [])
    (hp : pre [.ins C ns ds, y]) (h : ∀ d, post [.ins C ns ds, y] d → Q own (.d d)) : O2 X F (.cmp .Eq) (.d (.ins C ns ds)) (.d y) Q own := by
  constructor
  intro ls H u v st rx ry Qv kk pins σ s uu vv I ru rv
  obtain ⟨a, dx, fs, rfl, ha⟩ := ins_at st rx
  cases ru
  obtain ⟨mA, J, _⟩ := ins_get I.hok ha
  obtain ⟨od, J, _⟩ := J.look
  obtain ⟨m, hF⟩ := I.fr
  show wpAny (model X.prog X.w) X.A (richCompare .Eq (.ref a) vv) (EP X pins σ Qv) X.xe s
  refine PySem.W.cmp_K (op := .Eq) (tb := tb) hr.units0 hF I.ok.mod.kin J (hty _ _ _ _ _ _ _ _ ry I rv) hn hs hf ?_
  exact thn (run_at (vs := [.ref a, v]) G rfl hr hb I (.cons rfl (.cons rv .nil)) (spF_use st (Reps.cons rx (Reps.cons ry Reps.nil)) hp kk h _)) fun u s q => ep_back q
/-- n == x -/
theorem O2.ownEqR (hs : PySem.W.findIn X.K (.ref C) "__eq__" = some (some (.ref f))) (hf : PySem.W.isFn X.K (.ref f) = true) (hsub : PySem.W.subIn X.K (.ref C) (.type "int") = some false) (G : FnOk X.prog X.w X.K X.mg X.base CX0 k f fd ps (spF X.K pre post)) (hr : Room k X.A) (hb : Binds X.K fd ps [])
    (hp : pre [.ins C ns ds, .int i]) (h : ∀ d, post [.ins C ns ds, .int i] d → Q own (.d d)) : O2 X F (.cmp .Eq) (.d (.int i)) (.d (.ins C ns ds)) Q own := by
  constructor
  intro ls H u v st rx ry Qv kk pins σ s uu vv I ru rv
  obtain ⟨a, dx, fs, rfl, ha⟩ := ins_at st ry
  cases rr_int rx
  cases rv
  obtain ⟨t, rfl⟩ := ru
  obtain ⟨mA, J, _⟩ := ins_get I.hok ha
  obtain ⟨od, J, _⟩ := J.look
  obtain ⟨m, hF⟩ := I.fr
  show wpAny (model X.prog X.w) X.A (richCompare .Eq (.int i t) (.ref a)) (EP X pins σ Qv) X.xe s
  refine Own.req_K hr.units0 hF I.ok.mod.kin J hs hf hsub ?_
  exact thn (run_at (vs := [.ref a, .int i]) G rfl hr hb I (.cons rfl (.cons ⟨_, rfl⟩ .nil)) (spF_use st (Reps.cons ry (Reps.cons rx Reps.nil)) hp kk h _)) fun u s q => ep_back q
/-- x != y, where __eq__ stands and no __ne__ -/
theorem O2.ownNe {y : D} {tb : Value} (hty : ∀ (ls : List Addr) (own : List Cell) (H : Hp) (v : V) (pins : List (Addr × Obj)) (σ : L2.St) (s : Shared) (u : Value), RRep X.K ls (F.g ls own H) (.d y) v → Inv X pins σ H s → RelV v u → PySem.W.Looks (model X.prog X.w) s.heap (typeOf u) tb) (hn : PySem.W.notFirst X.K C tb = true)
    (hs : PySem.W.findIn X.K (.ref C) "__eq__" = some (some (.ref f))) (hne : PySem.W.findIn X.K (.ref C) "__ne__" = some (some (.builtin "object.__ne__"))) (hf : PySem.W.isFn X.K (.ref f) = true) (hobj : PySem.W.subIn X.K (.ref C) (.type "object") = some true)
    (G : FnOk X.prog X.w X.K X.mg X.base CX0 k f fd ps (spF X.K pre post)) (hr : Room (k + 1) X.A) (hb : Binds X.K fd ps [])
    (hp : pre [.ins C ns ds, y]) (h : ∀ d, post [.ins C ns ds, y] d → ∃ b, d = .bl b ∧ Q own (.d (.bl (!b)))) : O2 X F (.cmp .NotEq) (.d (.ins C ns ds)) (.d y) Q own := by
  constructor
  intro ls H u v st rx ry Qv kk pins σ s uu vv I ru rv
  obtain ⟨a, dx, fs, rfl, ha⟩ := ins_at st rx
  cases ru
  obtain ⟨mA, J, _⟩ := ins_get I.hok ha
  obtain ⟨od, J, _⟩ := J.look
  obtain ⟨m, hF⟩ := I.fr
  show wpAny (model X.prog X.w) X.A (richCompare .NotEq (.ref a) vv) (EP X pins σ Qv) X.xe s
  refine Own.rne_K (tb := tb) (hu_of hr) hF I.ok.mod.kin J (hty _ _ _ _ _ _ _ _ ry I rv) hn hs hne hf hobj ?_
  refine thn (run_at (vs := [.ref a, v]) G rfl hr.in1 hb I (.cons rfl (.cons rv .nil)) (spF_use (Q := fun o r => ∃ b, r = .d (.bl b) ∧ Q o (.d (.bl (!b)))) st (Reps.cons rx (Reps.cons ry Reps.nil)) hp (Qv := fun v H' => ∃ b, v = .bl b ∧ Qv (.bl (!b)) H') (fun ls' own' H' r v l s1 rr ⟨b, e, q⟩ => by subst e; exact ⟨b, rr_bl rr, kk _ _ _ (.d (.bl (!b))) _ l s1 ir_bl q⟩) (fun d hd => by obtain ⟨b, rfl, q⟩ := h d hd; exact ⟨b, rfl, q⟩) _)) fun u s q => ?_
  obtain ⟨v, H', I', r, b, rfl, q⟩ := q
  cases r
  exact ⟨b, rfl, .bl (!b), H', I', rfl, q⟩
theorem ty_int (ls : List Addr) (own : List Cell) (H : Hp) (v : V) (pins : List (Addr × Obj)) (σ : L2.St) (s : Shared) (u : Value) (h : RRep X.K ls (F.g ls own H) (.d (.int i)) v) (_ : Inv X pins σ H s) (r : RelV v u) : PySem.W.Looks (model X.prog X.w) s.heap (typeOf u) (.type "int") := by
  cases rr_int h
  obtain ⟨t, rfl⟩ := r
  exact PySem.W.Looks.of_pure rfl
theorem ty_ins (ls : List Addr) (own : List Cell) (H : Hp) (v : V) (pins : List (Addr × Obj)) (σ : L2.St) (s : Shared) (u : Value) (h : RRep X.K ls (F.g ls own H) (.d (.ins C ns ds)) v) (I : Inv X pins σ H s) (r : RelV v u) : PySem.W.Looks (model X.prog X.w) s.heap (typeOf u) (.ref C) := by
  obtain ⟨a, dx, xs, rfl, e, _⟩ := ins_rr h
  cases r
  obtain ⟨mA, J, _⟩ := ins_get I.hok (msk_same _ _ _ _ e)
  obtain ⟨od, J, _⟩ := J.look
  exact J.type
/-! ### isinstance -/
/-- what isinstance must know of a class of the text -/
structure IsC (K : PySem.W.Frag) (C : Addr) : Prop where
  cl : Cls K C
  ha : PySem.W.findIn K (.ref C) "__class__" = some (some (.builtin "object.__class__"))
  hn : PySem.W.specialIn K (.builtin "object.__class__") "__get__" = some (some (.builtin "getset_descriptor.__get__"))
  htk : PySem.W.takesIn K (.builtin "object.__class__") = some true
  hm : PySem.W.mroIn K C (.type "object") = some true
theorem Cl.isiInt {c : D} {u : Value} {b : Bool} (hc : ∀ G v, Rep X.K G c v → ClsV v u) (hk : PySem.W.kitOne X.K (.type "int") u = some b) (h : Q own (.d (.bl b))) : Cl X F (.builtin "isinstance") [.d (.int i), .d c] Q own := by
  constructor
  intro ls H vs st rr Qv k
  obtain ⟨v, w, rfl, rv, rw'⟩ := rrs2 rr
  cases rr_int rv
  exact call_isi.to ⟨_, w, _, u, b, rfl, hc _ _ rw', .base (.int i), hk, k _ _ _ (.d (.bl b)) _ Le.refl st ir_bl h⟩
theorem Cl.isiIns {c : D} {u : Value} {b : Bool} (T : IsC X.K C) (hc : ∀ G v, Rep X.K G c v → ClsV v u) (hk : PySem.W.kitOne X.K (.ref C) u = some b) (h : Q own (.d (.bl b))) : Cl X F (.builtin "isinstance") [.d (.ins C ns ds), .d c] Q own := by
  constructor
  intro ls H vs st rr Qv k
  obtain ⟨v, w, rfl, rv, rw'⟩ := rrs2 rr
  obtain ⟨a, dx, fs, rfl, ha⟩ := ins_at st rv
  exact call_isi.to ⟨_, w, _, u, b, rfl, hc _ _ rw', .base (.ins ha T.cl T.ha T.hn T.htk T.hm), hk, k _ _ _ (.d (.bl b)) _ Le.refl st ir_bl h⟩
theorem Cl.isiBl {c : D} {u : Value} {x b : Bool} (hc : ∀ G v, Rep X.K G c v → ClsV v u) (hk : PySem.W.kitOne X.K (.type "bool") u = some b) (h : Q own (.d (.bl b))) : Cl X F (.builtin "isinstance") [.d (.bl x), .d c] Q own := by
  constructor
  intro ls H vs st rr Qv k
  obtain ⟨v, w, rfl, rv, rw'⟩ := rrs2 rr
  cases rr_bl rv
  exact call_isi.to ⟨_, w, _, u, b, rfl, hc _ _ rw', .base (.bl x), hk, k _ _ _ (.d (.bl b)) _ Le.refl st ir_bl h⟩
theorem clsv_ty {K G v} {n : String} (h : Rep K G (.ty n) v) : ClsV v (.type n) := by
  simp only [Rep] at h; subst h; exact .ty n
theorem clsv_ref {K G v} {a : Addr} (h : Rep K G (.ref a) v) : ClsV v (.ref a) := by
  simp only [Rep] at h; subst h; exact .own a
/-- x.bit_length() -/
theorem E.bits {o : Expr} {apos pos : Pos} (h : E X F o (fun o1 r => ∃ i, r = .d (.int i) ∧ Q o1 (.d (.int (Builtin.Int.intBits i : Nat)))) own ρ) (hbase : attributeBase o "bit_length" X.env (eval o X.env) = eval o X.env := by rfl) (hline : (apos.endLine == pos.line) = true := by rfl) : E X F (.Call (.Attribute o "bit_length" apos) [] [] pos) Q own ρ := by
  constructor
  intro ls σ H st sr Qv k
  refine (pe_bits pe_we hbase hline).to ?_
  refine h ls σ H st sr _ fun ls1 own1 H1 x u l1 s1 rx ⟨i, ex, q⟩ => ?_
  subst ex
  cases rr_int rx
  exact ⟨i, rfl, k _ _ _ (.d (.int _)) _ l1 s1 ir_int q⟩
end
end DL

namespace DL
open PySem PySem.Spec PyProof.Rows L2

/-! ### exceptions -/
/-- what the context takes of exceptions, over data -/
def Tk (X : Cx) (F : Fm) (XC : Value → List Cell → Ro → Prop) : Prop := ∃ W : WX, Takes X W ∧ ∀ ls own H ρ σ cls, St0 X.K F ls own H → SRep X.K ls (F.g ls own H) ρ σ → XC cls own ρ → W cls none σ H
/-- a def that changes nothing that stood and may raise -/
def spX (K : PySem.W.Frag) (pre : List D → Prop) (post : List D → D → Prop) (exc : List D → Value → Prop) : Sp := fun vs H Q E => ∃ (S : List Addr) (ds : List D), (∀ b ∈ S, Hid (H b)) ∧ Reps K (msk S H) ds vs ∧ pre ds ∧
  (∀ v H' d, Same H H' → Rep K (msk S H') d v → post ds d → Q v H') ∧ ∀ cls H', Same H H' → exc ds cls → E cls none H'
def spIX (K : PySem.W.Frag) (C : Addr) (ns : List Str) (pre : List D → Prop) (post : List D → List D → Prop) (exc : List D → Value → Prop) : Sp := fun vs H Q E => ∃ (S : List Addr) (x dx : Addr) (ws : List V) (ds : List D), vs = .ref x :: ws ∧ x ∉ S ∧ (∀ b ∈ S, Hid (H b)) ∧
  H x = some (.ins C dx []) ∧ Reps K (msk (S ++ [x]) H) ds ws ∧ pre ds ∧
  (∀ H' dx' xs fs, (∀ b o, b ≠ x → H b = some o → H' b = some o) → H' x = some (.ins C dx' (ns.zip xs)) → ns.length = fs.length → Reps K (msk (S ++ [x]) H') fs xs → post ds fs → Q .non H') ∧
  ∀ cls H', (∀ b o, b ≠ x → H b = some o → H' b = some o) → exc ds cls → E cls none H'
section
variable {P : Program} {w : World} {K : PySem.W.Frag} {mg : Str → Option Value} {base : Heap}
/-- the body's context in a def that may raise -/
abbrev cxX (P : Program) (w : World) (K : PySem.W.Frag) (mg : Str → Option Value) (base : Heap) (N : List Str) (qual : Str) (sc : Scope) (f : Addr) (cdv : Value) (A : Around) (outer : List Env) (s : Shared) (H : Hp) (E : XK) : Cx := cxOf (L2.CX P w) P w K mg base N qual sc f cdv A outer s H E
theorem ok_X {x qual : Str} {st : Stmt} {f : Addr} {fd : FuncData} {N ps : List Str} {k : Nat} (F : Fun K x qual st f fd) (S : FnScope N ps (defScope st)) {pre : List D → Prop} {post : List D → D → Prop} {exc : List D → Value → Prop} (hlen : ∀ ds, pre ds → ds.length = ps.length)
    (body : ∀ (cdv : Value) (A : Around) (outer : List Env) (s : Shared) (H : Hp) (E : XK) (Fr : Fm) (ds : List D), Room k (A.deeper (envOfC qual (defScope st) s.heap.objs.size f cdv)) → Fr.mu = [] → pre ds → Tk (cxX P w K mg base N qual (defScope st) f cdv A outer s H E) Fr (fun cls _ _ => exc ds cls) →
      W (cxX P w K mg base N qual (defScope st) f cdv A outer s H E) Fr (defBody st) { nx := fun _ _ => post ds .non, rt := fun _ r => ∃ d, r = .d d ∧ post ds d } [] (ent N.length (ds.map R.d))) :
    FnOk P w K mg base (L2.CX P w) (k + 1) f fd ps (spX K pre post exc) := by
  refine F.okX S (fun vs H Q E h => ?_) (fun cdv A outer s H vs Q E hr h => ?_)
  · obtain ⟨_, ds, _, h2, h3, _⟩ := h
    rw [← h2.length]; exact hlen ds h3
  · obtain ⟨S0, ds, h1, h2, h3, kk, ke⟩ := h
    refine ⟨_, pss_ws, ?_⟩
    have st0 : St0 K (Fm.of H S0 []) [] [] H := ⟨rfl, List.nodup_nil, fun l hl => absurd hl (by simp), fun k l c hl => absurd hl (by simp), fun b o _ e => e, fun b h => h, h1, fun l hl => absurd hl (by simp), List.nil_prefix, fun _ _ e => by cases e⟩
    have eg : Fm.g (Fm.of H S0 []) [] [] H = msk S0 H := by show msk (S0 ++ live [] []) H = _; simp [live]
    have sr : SRep K [] (Fm.g (Fm.of H S0 []) [] [] H) (ent N.length (ds.map R.d)) (L2.start N vs) := start_rep N (by rw [eg]; exact RReps.ofD h2)
    have sm : ∀ {ls' : List Addr} {own' : List Cell} {H' : Hp}, St0 K (Fm.of H S0 []) ls' own' H' → Same H H' := fun s' b o e => s'.keep b o (by simp) e
    have fin : ∀ {ls' : List Addr} {own' : List Cell} {H' : Hp} {d : D} {v : V}, St0 K (Fm.of H S0 []) ls' own' H' → Rep K (Fm.g (Fm.of H S0 []) ls' own' H') d v → post ds d → Q v H' := fun s' r q =>
      kk _ _ _ (sm s') (Rep.mono (msk_le fun b hb => List.mem_append_left _ hb) r) q
    have tk : Tk (cxX P w K mg base N qual (defScope st) f cdv A outer s H E) (Fm.of H S0 []) (fun cls _ _ => exc ds cls) :=
      ⟨fun cls d _ H => E cls d H, takes_of rfl rfl rfl rfl, fun ls own H' ρ σ cls s' _ q => ke cls H' (sm s') q⟩
    refine body cdv A outer s H E (Fm.of H S0 []) ds hr rfl h3 tk [] (L2.start N vs) H st0 sr _ ⟨?_, ?_, ?_, ?_⟩
    · intro ls' own' H' ρ σ _ s' _ q
      exact fin (d := .non) s' (by simp only [Rep]) q
    · rintro ls' own' H' r v _ s' rv ⟨d, rfl, q⟩
      exact fin s' rv q
    · intro _ _ _ _ _ _ _ _ q; exact q
    · intro _ _ _ _ _ _ _ _ q; exact q
theorem ok_IX {x qual : Str} {st : Stmt} {f C : Addr} {fd : FuncData} {N ps ns : List Str} {k : Nat} (F : Fun K x qual st f fd ∨ ∃ dvs kws, FunD K x qual (defArgs st) (defBody st) (defScope st) dvs kws f fd) (S : FnScope N ps (defScope st)) {pre : List D → Prop} {post : List D → List D → Prop} {exc : List D → Value → Prop} (hlen : ∀ ds, pre ds → ds.length + 1 = ps.length)
    (body : ∀ (cdv : Value) (A : Around) (outer : List Env) (s : Shared) (H : Hp) (E : XK) (Fr : Fm) (ds : List D), Room k (A.deeper (envOfC qual (defScope st) s.heap.objs.size f cdv)) → pre ds → Tk (cxX P w K mg base N qual (defScope st) f cdv A outer s H E) Fr (fun cls _ _ => exc ds cls) →
      W (cxX P w K mg base N qual (defScope st) f cdv A outer s H E) Fr (defBody st) { nx := fun own _ => ∃ fs : List D, own[0]? = some (.ins C ns (fs.map R.d)) ∧ post ds fs, rt := fun own r => r = .d .non ∧ ∃ fs : List D, own[0]? = some (.ins C ns (fs.map R.d)) ∧ post ds fs } [.ins C [] []] (ent N.length (.c 0 :: ds.map R.d))) :
    FnOk P w K mg base (L2.CX P w) (k + 1) f fd ps (spIX K C ns pre post exc) := by
  have len : ∀ vs H Q E, spIX K C ns pre post exc vs H Q E → vs.length = ps.length := fun vs H Q E h => by
    obtain ⟨_, l, dx, ws, ds, rfl, _, _, _, h7, h8, _⟩ := h
    rw [List.length_cons, ← h7.length]; exact hlen ds h8
  have hb : ∀ (cdv : Value) (A : Around) (outer : List Env) (s : Shared) (H : Hp) (vs : List V) (Q : VK) (E : XK), Room k (A.deeper (envOfC qual (defScope st) s.heap.objs.size f cdv)) → spIX K C ns pre post exc vs H Q E →
      ∃ t, PSs (cxX P w K mg base N qual (defScope st) f cdv A outer s H E) (defBody st) t ∧ t { nx := fun _ H' => Q .non H', rt := Q } (L2.start N vs) H := by
    intro cdv A outer s H vs Q E hr h
    obtain ⟨S0, l, dx, ws, ds, rfl, hl, h1, h4, h7, h8, kk, ke⟩ := h
    refine ⟨_, pss_ws, ?_⟩
    have st0 : St0 K (Fm.of H S0 [l]) [l] [.ins C [] []] H := by
      refine ⟨rfl, by simp, fun b hb => ?_, fun j b c e1 e2 => ?_, fun b o _ e => e, fun b h => h, h1, fun b hb => by rw [List.mem_singleton.mp hb, h4]; exact fun z => (by cases z), List.nil_prefix, fun _ _ e => by cases e⟩
      · rw [List.mem_singleton.mp hb]; exact ⟨hl, .inr (by simp)⟩
      · cases j with
        | zero =>
          simp at e1 e2
          subst e1; subst e2
          exact ⟨dx, [], h4, rfl, .nil⟩
        | succ j => simp at e1
    have sr : SRep K [l] (Fm.g (Fm.of H S0 [l]) [l] [.ins C [] []] H) (ent N.length (.c 0 :: ds.map R.d)) (L2.start N (.ref l :: ws)) := start_rep N (.cons ⟨l, rfl, rfl⟩ (RReps.ofD h7))
    have fin : ∀ {ls' : List Addr} {own' : List Cell} {H' : Hp}, Le (Fm.of H S0 [l]) [l] [.ins C [] []] H ls' own' H' → St0 K (Fm.of H S0 [l]) ls' own' H' → (∃ fs : List D, own'[0]? = some (.ins C ns (fs.map R.d)) ∧ post ds fs) → Q .non H' := by
      rintro ls' own' H' le s' ⟨fs, ec, q⟩
      have e0 : ls'[0]? = some l := pre_get le.pre rfl
      obtain ⟨dx', xs', g1, g2, g3⟩ := s'.at_ 0 l _ e0 ec
      refine kk _ _ _ _ (fun b o hb e => s'.keep b o (by simpa using hb) e) g1 (by rw [g2, List.length_map]) (Reps.mono (msk_le fun b hb => ?_) (RReps.toD g3)) q
      rcases List.mem_append.mp hb with h | h
      · exact List.mem_append_left _ h
      · rw [List.mem_singleton.mp h]; exact List.mem_append_right _ (live_get e0 ec fun z => by cases z)
    have tk : Tk (cxX P w K mg base N qual (defScope st) f cdv A outer s H E) (Fm.of H S0 [l]) (fun cls _ _ => exc ds cls) :=
      ⟨fun cls d _ H => E cls d H, takes_of rfl rfl rfl rfl, fun ls own H' ρ σ cls s' _ q => ke cls H' (fun b o hb e => s'.keep b o (by simpa using hb) e) q⟩
    refine body cdv A outer s H E (Fm.of H S0 [l]) ds hr h8 tk [l] (L2.start N (.ref l :: ws)) H st0 sr _ ⟨?_, ?_, ?_, ?_⟩
    · intro ls' own' H' ρ σ le s' _ q
      exact fin le s' q
    · rintro ls' own' H' r v le s' rv ⟨rfl, q⟩
      have e := rr_non rv
      subst e
      exact fin le s' q
    · intro _ _ _ _ _ _ _ _ q; exact q
    · intro _ _ _ _ _ _ _ _ q; exact q
  rcases F with F | ⟨dvs, kws, F⟩
  · exact F.okX S len hb
  · exact F.ok S len fun cdv A outer s H vs Q E hr h => hb cdv A outer s H vs Q E hr h
end
section
variable {X : Cx} {F : Fm} {own : List Cell} {ρ : Ro} {Q : QE} {P : Po} {k : Nat} {f C : Addr} {fd : FuncData} {ps : List Str} {pre : List D → Prop} {post : List D → D → Prop} {exc : List D → Value → Prop} {x m : Str} {p pos apos : Pos} {e o : Expr} {es : List Expr} {XC : Value → List Cell → Ro → Prop}
/-- raise X('..'), X a class of the text without own __init__ -/
theorem W1.raise {B newId initId : String} {bmB : List Value} {msg : Str} {j : Nat} {p2 : Pos} (hcalm : X.calm = true) (tk : Tk X F XC) (FB : ExcBaseFacts B newId initId bmB) (q : PySem.W.excIn X.K C bmB newId = true) (gC : X.mg x = some (.ref C)) (kC : PySem.W.keepIn X.K (.ref C) = true) (r : Raises X (.ref C)) (h : XC (.ref C) own ρ) (hg : Gl X x := by rfl)
    (hdb : (x == ("__debug__" : Str)) = false := by decide) : W1 X F (.Raise (some (.Call (.Name x p) [.Constant (.str msg) j p2] [] apos)) none pos) P own ρ := by
  constructor
  intro ls σ H s0 sr De k
  obtain ⟨W0, t, hw⟩ := tk
  exact (ps_raise hcalm t (pmk_own FB q gC kC r hg hdb)).to (hw _ _ _ _ _ _ s0 sr h)
theorem spX_use {ls own H Qv} {ds : List D} {vs : List V} {σ : L2.St} {W0 : WX} (st : St0 X.K F ls own H) (sr : SRep X.K ls (F.g ls own H) ρ σ) (rr : Reps X.K (F.g ls own H) ds vs) (hp : pre ds) (k : KV' X F ls own H Q Qv) (q : ∀ d, post ds d → Q own (.d d))
    (hw : ∀ ls own H ρ σ cls, St0 X.K F ls own H → SRep X.K ls (F.g ls own H) ρ σ → XC cls own ρ → W0 cls none σ H) (qe : ∀ cls, exc ds cls → XC cls own ρ) : spX X.K pre post exc vs H Qv (WE W0 σ) :=
  ⟨F.S0 ++ live ls own, ds, st.hid, rr, hp, fun v H' d sm rd pd => k ls own H' (.d d) v (Le.grow sm) (st.grow sm) rd (q d pd), fun cls H' sm he => hw ls own H' ρ σ cls (st.grow sm) (sr.up List.prefix_rfl (msk_mono sm)) (qe cls he)⟩
/-- o.m(e, ..), the method may raise -/
theorem E.methX {pl : Sem Bool} (tk : Tk X F XC) (c : Cls X.K C) (hm : Meth X.K C m f) (G : FnOk X.prog X.w X.K X.mg X.base (L2.CX X.prog X.w) k f fd ps (spX X.K pre post exc)) (hr : Room k X.A) (hb : Binds X.K fd ps [])
    (h : E X F o (fun o1 r => ∃ ns ds0, r = .d (.ins C ns ds0) ∧ (ns.zip ds0).lookup m = none ∧ A X F (e :: es) (fun o2 rs => ∃ ds : List D, rs = ds.map R.d ∧ pre (.ins C ns ds0 :: ds) ∧ (∀ d, post (.ins C ns ds0 :: ds) d → Q o2 (.d d)) ∧ ∀ cls, exc (.ins C ns ds0 :: ds) cls → XC cls o2 ρ) o1 ρ) own ρ)
    (hst : starEach (e :: es) X.env = (false, eval e X.env) :: starEach es X.env := by rfl) (hpl : (backTo pos (starEach es X.env)).any (·.1) = false := by rfl)
    (ht : eval (.Call (.Attribute o m apos) (e :: es) [] pos) X.env = (do
      let ov ← eval o X.env
      standAt apos.atName
      let (f, first) ← holding [ov] (getMethod ov m pl)
      callWith pos f first (backTo pos (starEach (e :: es) X.env)) (backToKw pos (keywordEach [] X.env))) := by rfl) : E X F (.Call (.Attribute o m apos) (e :: es) [] pos) Q own ρ := by
  constructor
  intro ls σ H st sr Qv kk pins s I
  obtain ⟨W0, t, hw⟩ := tk
  refine PySem.W.methodCall_KW (pl := pl) (thn (h ls σ H st sr (fun x H1 => ∃ a dx fs, x = .ref a ∧ H1 a = some (.ins C dx fs) ∧ fs.lookup m = none ∧ wa X (e :: es) σ H1 fun vs H2 => spX X.K pre post exc (x :: vs) H2 Qv (WE W0 σ)) (fun ls1 own1 H1 r u l1 s1 rr ⟨ns, ds0, er, hn, ha⟩ => ?_) pins s I) fun u s1 ⟨x, H1, I1, rx, a, dx, fs, ex, ea, l, q⟩ => ?_) ht
  · subst er
    obtain ⟨a, dx, fs, rfl, g1, g2⟩ := meth_core s1 rr hn
    refine ⟨a, dx, fs, rfl, g1, g2, ?_⟩
    refine ha ls1 σ H1 s1 (sr.up l1.pre l1.same) _ fun ls2 own2 H2 rs vs l2 s2 rr2 ⟨ds, er, hp, q, qe⟩ => ?_
    subst er
    exact spX_use s2 (sr.up (l1.trans l2).pre (l1.trans l2).same) (Reps.cons (rr.up l2.pre l2.same) (RReps.toD rr2)) hp (fun _ _ _ _ _ l => kk _ _ _ _ _ ((l1.trans l2).trans l)) q hw qe
  · subst ex
    obtain rfl : u = Value.ref a := rx
    refine getmeth_ok I1 ea c hm l ?_
    refine PySem.W.callWith_K (first := [.ref a]) (h₀ := X.base) I.ok.mod.kin hm.kp (thn (q pos pins s1 I1) fun us s2 ⟨vs, H2, I2, r, q2⟩ => ⟨I2.kIn, ?_⟩) hst hpl
    exact run_fnS (us := .ref a :: us) (vs := .ref a :: vs) (E := WE W0) G hr hb (passAt t σ) I2 (.cons rfl r) q2
/-- C(e, ..), the __init__ may raise -/
theorem run_makeS {pins : List (Addr × Obj)} {σ : L2.St} {H : Hp} {s : Shared} {Qv : VK} {us dus : List Value} {vs dvs : List V} {sp : Sp} {E : XK} (M : Mk X.K C f) (G : FnOk X.prog X.w X.K X.mg X.base (L2.CX X.prog X.w) k f fd ps sp) (hr : Room (k + 1) X.A) (hb : Binds X.K fd ps dus) (hd : Vals dvs dus)
    (hx : PassesAt (L2.CX X.prog X.w) X σ E) (I : Inv X pins σ H s) (r : Vals vs us)
    (h : ∀ x dx, H x = none → H dx = none → dx ≠ x → sp (.ref x :: (vs ++ dvs)) (upd (upd H dx (.own x)) x (.ins C dx [])) (fun v H2 => v = .non ∧ Qv (.ref x) H2) E) :
    wpAny (model X.prog X.w) X.A (call (.ref C) us) (EP X pins σ Qv) X.xe s := by
  have hq := h (s.heap.objs.size + 1) s.heap.objs.size (I.hok.fresh (Nat.le_succ _)) (I.hok.fresh (Nat.le_refl _)) (Nat.ne_of_lt (Nat.lt_succ_self _))
  have I2 := Inv.made (C := C) I
  have r2 : Vals (V.ref (s.heap.objs.size + 1) :: (vs ++ dvs)) (Value.ref (s.heap.objs.size + 1) :: (us ++ dus)) := .cons rfl (r.append hd)
  have hl : (Value.ref (s.heap.objs.size + 1) :: us ++ dus).length = ps.length := by
    have e := r2.length
    rw [G.len _ _ _ _ hq] at e
    exact e.symm
  refine wpAny_call (make_map (f := f) I.kIn M.makes M.init (beq_iff_eq.mp M.fn) (codeAny_mono (G.run _ X.stack _ _ ⟨Value.ref (s.heap.objs.size + 1) :: us, []⟩ (Value.ref (s.heap.objs.size + 1) :: (us ++ dus)) _ _ E (hr.make C us [])
    (I2.env0.make C us []) (hb _ (Value.ref (s.heap.objs.size + 1) :: us) I2.kIn hl) r2 hq) fun r s' hq' => ?_))
  cases r with
  | error e => exact hx pins _ _ e s' I2 hq'
  | ok fl =>
    cases fl with
    | ret u =>
      obtain ⟨v, H', I3, rv, ev, q3⟩ := I2.after hq'
      subst ev
      exact ⟨rv, ⟨V.ref (s.heap.objs.size + 1), H', I3, rfl, q3⟩⟩
    | next => exact False.elim hq'
    | brk => exact False.elim hq'
    | cont => exact False.elim hq'
theorem E.makeX {ns : List Str} {postI : List D → List D → Prop} {dds : List D} {dvs : List V} {dus : List Value} (tk : Tk X F XC) (M : Mk X.K C f) (G : FnOk X.prog X.w X.K X.mg X.base (L2.CX X.prog X.w) k f fd ps (spIX X.K C ns pre postI exc)) (hr : Room (k + 1) X.A) (hm : X.mg x = some (.ref C)) (hb : Binds X.K fd ps dus) (hdv : Vals dvs dus) (hdd : ∀ G, Reps X.K G dds dvs)
    (h : A X F (e :: es) (fun o rs => ∃ ds : List D, rs = ds.map R.d ∧ pre (ds ++ dds) ∧ (∀ fs, postI (ds ++ dds) fs → Q o (.d (.ins C ns fs))) ∧ ∀ cls, exc (ds ++ dds) cls → XC cls o ρ) own ρ) (hg : Gl X x := by rfl) (hdb : (x == ("__debug__" : Str)) = false := by decide) (he : starEach (e :: es) X.env = (false, eval e X.env) :: starEach es X.env := by rfl)
    (hpl : (backTo pos (starEach es X.env)).any (·.1) = false := by rfl) : E X F (.Call (.Name x p) (e :: es) [] pos) Q own ρ := by
  constructor
  intro ls σ H st sr Qv kk pins s I
  obtain ⟨W0, t, hw⟩ := tk
  refine wpAny_Call_Name_kw (ld_glob I hg hm ?_ hdb)
  refine PySem.W.callWith_K (h₀ := X.base) I.ok.mod.kin M.kp (thn (h ls σ H st sr (fun vs H1 => ∀ a dx, H1 a = none → H1 dx = none → dx ≠ a → spIX X.K C ns pre postI exc (.ref a :: (vs ++ dvs)) (upd (upd H1 dx (.own a)) a (.ins C dx [])) (fun v H2 => v = .non ∧ Qv (.ref a) H2) (WE W0 σ)) (fun ls1 own1 H1 rs vs l1 s1 rr ⟨ds, er, hp, q, qe⟩ => ?_) pos pins s I) fun us s1 ⟨vs, H1, I1, r, q⟩ => ⟨I1.kIn, ?_⟩) he hpl
  · subst er
    intro a dx ha hdx hne
    have hid : a ∉ F.S0 ++ live ls1 own1 := fun z => (s1.hid a z).ne ha
    have sm0 : Same H1 (upd (upd H1 dx (.own a)) a (.ins C dx [])) := fun b o e => by rw [upd_ne (ne_of_none e ha), upd_ne (ne_of_none e hdx)]; exact e
    refine ⟨F.S0 ++ live ls1 own1, a, dx, _, ds ++ dds, rfl, hid, fun b hb => ?_, upd_same, ?_, hp, fun H' dx' xs fs hm' a1 a2 a3 a4 => ⟨rfl, ?_⟩, fun cls H' hm' he => ?_⟩
    · exact (s1.hid b hb).up (sm0 b)
    · refine Reps.append (Reps.mono (fun b o e => ?_) (RReps.toD rr)) (hdd _)
      have hb : b ≠ a := fun z => by
        subst z
        have := msk_same _ _ _ _ e
        rw [ha] at this; cases this
      have e : msk (F.S0 ++ live ls1 own1) H1 b = some o := e
      unfold msk at e ⊢
      split at e
      · cases e
      · rename_i hn
        rw [if_neg (by rw [List.mem_append, List.mem_singleton]; exact fun z => z.elim hn hb)]
        exact sm0 b o e
    · have sm : Same H1 H' := fun b o e => hm' b o (fun z => by subst z; rw [ha] at e; cases e) (sm0 b o e)
      refine kk ls1 own1 H' (.d (.ins C ns fs)) _ (l1.trans (Le.grow sm)) (s1.grow sm) ?_ (q fs a4)
      simp only [RRep, Rep]
      refine ⟨a, dx', xs, rfl, ?_, a2, Reps.mono (msk_le fun b hb => List.mem_append_left _ hb) a3⟩
      show msk (F.S0 ++ live ls1 own1) H' a = _
      rw [msk_out hid]
      exact a1
    · have sm : Same H1 H' := fun b o e => hm' b o (fun z => by subst z; rw [ha] at e; cases e) (sm0 b o e)
      exact hw ls1 own1 H' ρ σ cls (s1.grow sm) (sr.up l1.pre ((Le.grow sm (own := own1) (ls := ls1) (F := F)).same |> l1.same.trans)) (qe cls he)
  · exact run_makeS (E := WE W0 σ) M G hr hb hdv (passAt t σ) I1 r q
/-- try: .. except c as n: .. -/
theorem W1.tryAs {n : Str} {i : Nat} {c : Value} {body suite : List Stmt} {b₀ : Stmt} {np pos' : Pos} (XC : Value → List Cell → Ro → Prop) (hs : X.stack = X.env :: X.outer) (hf : X.env.frame = some X.env.locals) (hN : X.N.Nodup) (hi : X.N[i]? = some n) (hln : X.env.kindOf n = some .local) (hc : Names X x c) {Wout : WX} (tko : Takes X Wout)
    (hb : ∀ pn xe F', F'.H0 = F.H0 → F'.S0 = F.S0 → F'.mu = F.mu → PassesOwn (model X.prog X.w) X.A X.env xe → Tk (X.tr pn xe) F' XC → W (X.tr pn xe) F' body { P with nx := P.nx } own ρ)
    (hsu : ∀ a oe cls pn own' ρ', Zc cls none oe → (∃ vs, oe.data = .fields vs) → XC cls own' ρ' → PySem.W.exmOne X.K cls c = some true ∧ W (X.suite a ((a, oe) :: pn)) F (b₀ :: suite) { nx := fun o r => P.nx o (r.set i none), rt := P.rt, bk := fun o r => P.bk o (r.set i none), ct := fun o r => P.ct o (r.set i none) } own' (ρ'.set i (some (.d (.ref a))))) :
    W1 X F (.Try body [.ExceptHandler (some (.Name x np)) (some n) (b₀ :: suite) pos'] [] [] pos) P own ρ := by
  constructor
  intro ls σ H s0 sr De k
  refine (ps_try_as (tb := fun W D σ H => ∀ pn xe, Takes (X.tr pn xe) W → PassesOwn (model X.prog X.w) X.A X.env xe → ws (X.tr pn xe) body D σ H)
    (ts := fun a cls d D σ H => ∀ oe pn, Zc cls d oe → (∃ vs, oe.data = .fields vs) → ws (X.suite a ((a, oe) :: pn)) (b₀ :: suite) D σ H) hs hf hN hi hln hc tko
    (fun W pn xe tk po => ⟨fun pins s σ H D I h => h pn xe tk po pins s I⟩) (fun a oe cls d pn hz hv => ⟨fun pins s σ H D I h => h oe pn hz hv pins s I⟩)).to ?_
  intro pn xe tk po
  have st1 : St0 (X.tr pn xe).K { F with la := ls, ga := F.g ls own H } ls own H := { s0 with ap := List.prefix_rfl, as := Same.refl _ }
  have back : ∀ {ls' own' H'}, St0 X.K { F with la := ls, ga := F.g ls own H } ls' own' H' → St0 X.K F ls' own' H' ∧ Le F ls own H ls' own' H' := fun z =>
    ⟨{ z with ap := s0.ap.trans z.ap, as := s0.as.trans z.as }, ⟨z.ap, z.as⟩⟩
  refine hb pn xe { F with la := ls, ga := F.g ls own H } rfl rfl rfl po ⟨_, tk, fun ls' own' H' ρ' σ' cls z sz hx => ?_⟩ ls σ H st1 sr De ⟨fun ls' own' H' ρ' σ' _ z sz q => k.nx _ _ _ _ _ (back z).2 (back z).1 sz q, fun ls' own' H' r v _ z rv q => k.rt _ _ _ _ _ (back z).2 (back z).1 rv q, fun ls' own' H' ρ' σ' _ z sz q => k.bk _ _ _ _ _ (back z).2 (back z).1 sz q, fun ls' own' H' ρ' σ' _ z sz q => k.ct _ _ _ _ _ (back z).2 (back z).1 sz q⟩
  have zz := (back z).1
  have zl := (back z).2
  have noneS : ∀ {ls K G} {ρ : Ro} {σ : L2.St} (i : Nat), SRep K ls G ρ σ → SRep K ls G (ρ.set i none) (σ.set i none) := by
    intro ls K G ρ σ i h
    induction h generalizing i with
    | nil => exact .nil
    | cons a t ih => cases i with
      | zero => exact .cons True.intro t
      | succ i => exact .cons a (ih i)
  refine ⟨true, ?_, fun _ a ha oe pn' hz hv => ?_, fun z => by cases z⟩
  · have oe : Obj := ⟨cls, none, .fields #[], #[]⟩
    exact (hsu 0 ⟨cls, none, .fields #[], #[]⟩ cls [] own' ρ' ⟨rfl, rfl⟩ ⟨_, rfl⟩ hx).1
  · refine (hsu a oe cls pn' own' ρ' hz hv hx).2 ls' _ H' zz (SRep.set (by simp only [RRep, Rep]) i sz) _ ⟨fun ls2 own2 H2 ρ2 σ2 l z2 s2 q => k.nx _ _ _ _ _ (zl.trans l) z2 (noneS i s2) q, fun ls2 own2 H2 r v l z2 rv q => k.rt _ _ _ _ _ (zl.trans l) z2 rv q, fun ls2 own2 H2 ρ2 σ2 l z2 s2 q => k.bk _ _ _ _ _ (zl.trans l) z2 (noneS i s2) q, fun ls2 own2 H2 ρ2 σ2 l z2 s2 q => k.ct _ _ _ _ _ (zl.trans l) z2 (noneS i s2) q⟩
/-- isinstance(e, c) in the suite -/
theorem Cl.isiExc {a De' : Addr} {oe : Obj} {pn : List (Addr × Obj)} {c : D} {cv : Value} {b : Bool} (T : ExcC X.K De') (hz : Zc (.ref De') none oe) (hf : ∃ vs, oe.data = .fields vs) (hc : ∀ G v, Rep X.K G c v → ∀ u, RelV v u → u = cv) (hk : PySem.W.kitOne X.K (.ref De') cv = some b) (h : Q own (.d (.bl b))) :
    Cl (X.suite a ((a, oe) :: pn)) F (.builtin "isinstance") [.d (.ref a), .d c] Q own := by
  constructor
  intro ls H vs st rr Qv k
  obtain ⟨v, w, rfl, rv, rw'⟩ := rrs2 rr
  cases rr_ref rv
  exact (call_isE (X := X) (pn := pn) T hz hf).to ⟨w, cv, b, rfl, hc _ _ rw', hk, k _ _ _ (.d (.bl b)) _ Le.refl st ir_bl h⟩
theorem relv_ty {K G v} {n : String} (h : Rep K G (.ty n) v) (u : Value) (r : RelV v u) : u = .type n := by
  simp only [Rep] at h; subst h; exact r
theorem relv_ref {K G v} {a : Addr} (h : Rep K G (.ref a) v) (u : Value) (r : RelV v u) : u = .ref a := by
  simp only [Rep] at h; subst h; exact r
end
end DL

namespace DL.Own
open PySem PySem.W PySem.Calls PyProof.Rows
section
variable {prog : Program} {w : World} {A : Around} {E : Value → Shared → Prop} {s : Shared}
theorem boolnew {x : Value} {R : Result → Shared → Prop} (h : wpAny (model prog w) A.in1 (truthy x) (fun b s' => R (.ok (.ret (.bool b))) s') (fun e s' => R (.error e) s') s) :
    codeAny (model prog w) A (.call (.builtin "bool.__new__") ⟨[.type "bool", x], []⟩) R s := by
  refine codeAny_call_builtin F.called_bool.plain F.entry_bool_new (wpAny_of_eq (F.newCall_bool_1 x) ?_)
  obtain ⟨hp, g, d, tk, os⟩ := s
  have f1 := F.conv_sub_bool
  have k : ∀ {Q : Fin → Shared → Prop}, (∀ b s', R (.ok (.ret (.bool b))) s' → Q (.done (.ret (.bool b))) s') → wpAny (model prog w) A.in1 (truthy x) (fun b s' => Q (.done (.ret (.bool b))) s') (fun e s' => R (.error e) s') ⟨hp, g, d, tk, os⟩ := fun q => wpAny_mono h (fun b s' z => q b s' z) fun _ _ z => z
  repeat (any_goals (first | assumption | exact wpAny_bind (k fun b s' z => wpAny_pure z) | exact wpAny_bind (wpAny_mono h (fun b s' z => wpAny_pure z) fun _ _ z => z) | wp_step))
/-- bool(x), by x's truth -/
theorem boolc {x : Value} {Q : Value → Shared → Prop} (h : wpAny (model prog w) A.in1.in1 (truthy x) (fun b s' => Q (.bool b) s') E s) : wpAny (model prog w) A (call (.type "bool") [x]) Q E s := by
  have tc := F.called_bool
  obtain ⟨c, tl, hm⟩ := tc.mro
  have md := tc.made
  have sb := tc.sub
  refine wpAny_call (codeAny_of_tree ?_)
  show wpAny _ _ (callAny (.type "bool") ⟨[x], []⟩) _ _ _
  refine wpAny_pure (And.intro (Code.quiet_builtin _ (by decide +kernel)) ?_)
  refine codeAny_builtin F.entry_type_call ?_
  rw [Around.under_plain (weight_type_call_type "bool" [x] []) (units_type_call_type "bool" [x] [])]
  have n1 := tc.notType
  have n2 := tc.canCreate
  have f1 := F.typeCall_bool_1 x
  repeat (any_goals (first | assumption | wp_step))
  refine codeAny_mono (boolnew (R := fun r s1 => match r with
      | .ok (.ret v) => s1.TypeIs v "bool" ∧ Q v s1
      | .ok _ => False
      | .error e => E e s1) (wpAny_mono h (fun b s' z => ⟨rfl, z⟩) fun _ _ z => z)) fun r s1 hr => ?_
  cases r with
  | error e => exact hr
  | ok fl =>
    cases fl with
    | ret v =>
      obtain ⟨ht, hq⟩ := hr
      have li := tc.init.lookup
      have bi := tc.init.bind v
      repeat (any_goals (first | assumption | wp_step))
      have ok2 : argsOk "object.__init__" ⟨[v, x], []⟩ := F.args_object_init_2 v x
      have gi := object_init_meets (self := v) (rest := [x]) li md F.newNe_bool prog w A.in1 (wants (fun r s2 => r = .none ∧ Q v s2) E) s1 ⟨ht, rfl, hq⟩
      refine codeAny_mono (codeAny_call_builtin tc.init.plain F.entry_object_init (tc.init.check _ _ _ _ _ _ _ _ ht ok2 gi)) fun r2 s2 h2 => ?_
      cases r2 with
      | error e => exact h2
      | ok fl2 =>
        cases fl2 with
        | ret r =>
          obtain ⟨rfl, hq⟩ := h2
          repeat (any_goals (first | assumption | wp_step))
        | _ => exact h2.elim
    | _ => exact hr.elim
end
end DL.Own
namespace DL
open PySem PySem.Spec PyProof.Rows L2
section
variable {X : Cx} {F : Fm} {own : List Cell} {ρ : Ro} {Q : QE} {QT : QT} {P : Po} {st : Stmt} {sts rest : List Stmt}
/-- a middle state -/
theorem W.cut (M : List Cell → Ro → Prop) (h : W1 X F st { P with nx := M } own ρ) (k : ∀ o r, M o r → W X F rest P o r) : W X F (st :: rest) P own ρ := by
  refine W.cons ?_
  constructor
  intro ls σ H s0 sr De e
  exact h ls σ H s0 sr De ⟨fun _ _ _ _ _ l s r q => e.nx _ _ _ _ _ l s r (k _ _ q), e.rt, e.bk, e.ct⟩
/-- bool(x) of an instance -/
theorem Cl.boolO {C f : Addr} {k : Nat} {fd : FuncData} {ps : List Str} {pre : List D → Prop} {post : List D → D → Prop} {ns : List Str} {ds : List D} (hs : PySem.W.findIn X.K (.ref C) "__bool__" = some (some (.ref f))) (hf : PySem.W.isFn X.K (.ref f) = true) (G : FnOk X.prog X.w X.K X.mg X.base CX0 k f fd ps (spF X.K pre post)) (hr : Room (k + 2) X.A) (hb : Binds X.K fd ps [])
    (hp : pre [.ins C ns ds]) (h : ∀ d, post [.ins C ns ds] d → ∃ b, d = .bl b ∧ Q own (.d (.bl b))) : Cl X F (.type "bool") [.d (.ins C ns ds)] Q own := by
  constructor
  intro ls H vs st rr Qv kk pins σ s us I ru
  obtain ⟨v, rfl, rx⟩ := rrs1 rr
  obtain ⟨a, dx, fs, rfl, ha⟩ := ins_at st rx
  obtain ⟨u, rfl, ru1⟩ := Vals.one ru
  obtain rfl : u = Value.ref a := ru1
  obtain ⟨mA, J, _⟩ := ins_get I.hok ha
  obtain ⟨od, J, _⟩ := J.look
  obtain ⟨m, hF⟩ := I.fr
  refine Own.boolc ?_
  refine PySem.W.truthy_K hF I.ok.mod.kin J hs hf ?_
  refine thn (run_at (vs := [.ref a]) G rfl hr.in1.in1 hb I (.cons rfl .nil) (spF_use (Q := fun o r => ∃ b, r = .d (.bl b) ∧ Q o (.d (.bl b))) st (Reps.cons rx Reps.nil) hp (Qv := fun v H' => ∃ b, v = .bl b ∧ Qv (.bl b) H') (fun ls' own' H' r v l s1 rr ⟨b, e, q⟩ => by subst e; exact ⟨b, rr_bl rr, kk _ _ _ (.d (.bl b)) _ l s1 ir_bl q⟩) (fun d hd => by obtain ⟨b, rfl, q⟩ := h d hd; exact ⟨b, rfl, q⟩) _)) fun u s q => ?_
  obtain ⟨v, H', I', r, b, rfl, q⟩ := q
  cases r
  exact ⟨.bl b, H', I', rfl, q⟩
/-- flat data as the kit's data -/
inductive FlatD where
  | b (x : Bool) | i (x : Int) | n | s (x : Str)
def FlatD.d : FlatD → D
  | .b x => .bl x | .i x => .int x | .n => .non | .s x => .str x
def FlatD.p : FlatD → PyData
  | .b x => .bool x | .i x => .int x | .n => .none | .s x => .str x
theorem dp_flat {K : PySem.W.Frag} {G : Hp} : ∀ {xs : List FlatD} {vs : List V}, Reps K G (xs.map FlatD.d) vs → ∀ {H : Hp}, DpAll K H vs (xs.map FlatD.p)
  | [], _, h, _ => by simp only [List.map_nil, Reps] at h; subst h; exact .nil
  | x :: xs, _, h, _ => by
    simp only [List.map_cons, Reps] at h
    obtain ⟨v, r, rfl, h1, h2⟩ := h
    refine .cons ?_ (dp_flat h2)
    cases x <;> simp only [FlatD.d, Rep] at h1 <;> subst h1
    · exact .bl _
    · exact .int _
    · exact .non
    · exact .str _
/-- two lists of flat data compared -/
theorem O2.eqL {xs ys : List FlatD} {a b : List D} {r : Bool} (hu : X.A.units + 64 < cLine) (ha : a = xs.map FlatD.d) (hb : b = ys.map FlatD.d) (sa : SeqAt.shaped (.list (xs.map FlatD.p)) = true) (sb : SeqAt.shaped (.list (ys.map FlatD.p)) = true) (hr : PyData.eqv (.list (xs.map FlatD.p)) (.list (ys.map FlatD.p)) = r) (h : Q own (.d (.bl r))) :
    O2 X F (.cmp .Eq) (.d (.lst a)) (.d (.lst b)) Q own := by
  constructor
  subst ha; subst hb
  intro ls H u v st rx ry Qv k
  obtain ⟨p, vs, rfl, hs, hv⟩ := lst_rr rx
  obtain ⟨q, ws, rfl, hs', hw⟩ := lst_rr ry
  exact (op_eqD hu).to ⟨_, _, .lst (sq_h hs) (dp_flat hv), .lst (sq_h hs') (dp_flat hw), sa, sb, k _ _ _ (.d (.bl _)) _ Le.refl st ir_bl (by rw [hr]; exact h)⟩
end
/-! ### a def that hands back a new list -/
def spN (K : PySem.W.Frag) (pre : List D → Prop) (I : List D → List D → Prop) : Sp := fun vs H Q _ => ∃ (S : List Addr) (ds : List D), (∀ b ∈ S, Hid (H b)) ∧ Reps K (msk S H) ds vs ∧ pre ds ∧
  ∀ p H' xs ps, Same H H' → H p = none → H' p = some (.lst xs) → Reps K (msk (S ++ [p]) H') ps xs → I ds ps → Q (.ref p) H'
section
variable {P : Program} {w : World} {K : PySem.W.Frag} {mg : Str → Option Value} {base : Heap}
theorem ok_N {x qual : Str} {st : Stmt} {f : Addr} {fd : FuncData} {N ps : List Str} {k : Nat} (F : Fun K x qual st f fd) (S : FnScope N ps (defScope st)) {pre : List D → Prop} {I : List D → List D → Prop} (hlen : ∀ ds, pre ds → ds.length = ps.length)
    (body : ∀ (cdv : Value) (A : Around) (outer : List Env) (s : Shared) (H : Hp) (E : XK) (Fr : Fm) (ds : List D), Room k (A.deeper (envOfC qual (defScope st) s.heap.objs.size f cdv)) → Fr.mu = [] → pre ds →
      W (cx0 P w K mg base N qual (defScope st) f cdv A outer s H E) Fr (defBody st) { nx := fun _ _ => False, rt := fun own r => ∃ n qs, r = .c n ∧ own[n]? = some (.lst (qs.map R.d)) ∧ I ds qs } [] (ent N.length (ds.map R.d))) :
    FnOk P w K mg base CX0 (k + 1) f fd ps (spN K pre I) := by
  refine F.ok S (fun vs H Q E h => ?_) (fun cdv A outer s H vs Q E hr h => ?_)
  · obtain ⟨_, ds, _, h2, h3, _⟩ := h
    rw [← h2.length]; exact hlen ds h3
  · obtain ⟨S0, ds, h1, h2, h3, kk⟩ := h
    refine ⟨_, pss_ws, ?_⟩
    have st0 : St0 K (Fm.of H S0 []) [] [] H := ⟨rfl, List.nodup_nil, fun l hl => absurd hl (by simp), fun k l c hl => absurd hl (by simp), fun b o _ e => e, fun b h => h, h1, fun l hl => absurd hl (by simp), List.nil_prefix, fun _ _ e => by cases e⟩
    have eg : Fm.g (Fm.of H S0 []) [] [] H = msk S0 H := by show msk (S0 ++ live [] []) H = _; simp [live]
    have sr : SRep K [] (Fm.g (Fm.of H S0 []) [] [] H) (ent N.length (ds.map R.d)) (L2.start N vs) := start_rep N (by rw [eg]; exact RReps.ofD h2)
    refine body cdv A outer s H E (Fm.of H S0 []) ds hr rfl h3 [] (L2.start N vs) H st0 sr _ ⟨?_, ?_, ?_, ?_⟩
    · intro _ _ _ _ _ _ _ _ q; exact q.elim
    · rintro ls' own' H' r v _ s' rv ⟨n, qs, rfl, hc, q⟩
      obtain ⟨l, hl, rfl⟩ := rv
      obtain ⟨xs, g1, g2⟩ := s'.at_ n l _ hl hc
      have hn : H l = none := by
        rcases (s'.new l (List.mem_of_getElem? hl)).2 with h | h
        · exact h
        · exact absurd h (by simp)
      refine kk l H' xs qs (fun b o e => s'.keep b o (by simp) e) hn g1 (Reps.mono (msk_le fun b hb => ?_) (RReps.toD g2)) q
      rcases List.mem_append.mp hb with h | h
      · exact List.mem_append_left _ h
      · rw [List.mem_singleton.mp h]; exact List.mem_append_right _ (live_get hl hc fun z => by cases z)
    · intro _ _ _ _ _ _ _ _ q; exact q
    · intro _ _ _ _ _ _ _ _ q; exact q
end
section
variable {X : Cx} {F : Fm} {own : List Cell} {ρ : Ro} {Q : QE} {k : Nat} {f : Addr} {fd : FuncData} {ps : List Str} {pre : List D → Prop} {I : List D → List D → Prop} {x : Str} {p pos : Pos} {e : Expr} {es : List Expr}
theorem E.callN (G : FnOk X.prog X.w X.K X.mg X.base CX0 k f fd ps (spN X.K pre I)) (hr : Room k X.A) (hm : X.mg x = some (.ref f)) (hk : PySem.W.keepIn X.K (.ref f) = true) (hb : Binds X.K fd ps [])
    (h : A X F (e :: es) (fun o rs => ∃ ds : List D, rs = ds.map R.d ∧ pre ds ∧ Q (o ++ [.any (I ds)]) (.c o.length)) own ρ) (hg : Gl X x := by rfl) (hdb : (x == ("__debug__" : Str)) = false := by decide) (he : starEach (e :: es) X.env = (false, eval e X.env) :: starEach es X.env := by rfl)
    (hpl : (backTo pos (starEach es X.env)).any (·.1) = false := by rfl) : E X F (.Call (.Name x p) (e :: es) [] pos) Q own ρ := by
  constructor
  intro ls σ H st sr Qv k
  refine (pe_call G hr hg hm hk hb .nil pass0 pa_wa hdb he hpl).to ?_
  refine h ls σ H st sr _ fun ls1 own1 H1 rs vs l1 s1 rr ⟨ds, er, hp, q⟩ => ?_
  subst er
  rw [List.append_nil]
  refine ⟨F.S0 ++ live ls1 own1, ds, s1.hid, RReps.toD rr, hp, fun p H' xs qs sm hn g1 g2 g3 => ?_⟩
  have z := st0_adopt (c := .any (I ds)) s1 sm hn (fun z => by cases z) ⟨xs, qs, g1, g2, g3⟩
  exact k _ _ _ (.c own1.length) _ (l1.trans z.2) z.1 ⟨p, by rw [← s1.len]; simp, rfl⟩ q
end
end DL

namespace DL
open PySem PySem.Spec PyProof.Rows L2
/-! ### defs and methods with what is known of them -/
/-- a def of the module, as it stands -/
structure Df (K : PySem.W.Frag) (mg : Str → Option Value) (x : Str) (st : Stmt) (ps : List Str) (f : Addr) (fd : FuncData) : Prop where
  fn : Fun K x x st f fd
  mg : mg x = some (.ref f)
  bd : Binds K fd ps []
/-- a method of the class, as it stands -/
structure Dm (K : PySem.W.Frag) (C : Addr) (x qual : Str) (st : Stmt) (ps : List Str) (f : Addr) (fd : FuncData) : Prop where
  fn : Fun K x qual st f fd
  at_ : PySem.W.findIn K (.ref C) x = some (some (.ref f))
  isf : PySem.W.isFn K (.ref f) = true
  bd : Binds K fd ps []
/-- a def of the module and its promise -/
def DOk (P : Program) (w : World) (K : PySem.W.Frag) (mg : Str → Option Value) (base : Heap) (CX : CXT) (x : Str) (k : Nat) (sp : Sp) : Prop :=
  ∃ f fd ps, mg x = some (.ref f) ∧ PySem.W.keepIn K (.ref f) = true ∧ FnOk P w K mg base CX k f fd ps sp ∧ Binds K fd ps []
def MOk (P : Program) (w : World) (K : PySem.W.Frag) (mg : Str → Option Value) (base : Heap) (CX : CXT) (C : Addr) (x : Str) (k : Nat) (sp : Sp) : Prop :=
  ∃ f fd ps, PySem.W.findIn K (.ref C) x = some (some (.ref f)) ∧ PySem.W.isFn K (.ref f) = true ∧ PySem.W.keepIn K (.ref f) = true ∧ FnOk P w K mg base CX k f fd ps sp ∧ Binds K fd ps []
/-- the class's making: d the defaults that fill up -/
def IOk (P : Program) (w : World) (K : PySem.W.Frag) (mg : Str → Option Value) (base : Heap) (CX : CXT) (C : Addr) (k : Nat) (dds : List D) (sp : Sp) : Prop :=
  ∃ f fd ps dvs dus, Mk K C f ∧ FnOk P w K mg base CX k f fd ps sp ∧ Binds K fd ps dus ∧ Vals dvs dus ∧ ∀ G, Reps K G dds dvs
section
variable {P : Program} {w : World} {K : PySem.W.Frag} {mg : Str → Option Value} {base : Heap} {CX : CXT} {x qual : Str} {st : Stmt} {ps : List Str} {f C : Addr} {fd : FuncData} {k : Nat} {sp : Sp}
theorem Df.ok (d : Df K mg x st ps f fd) (h : FnOk P w K mg base CX k f fd ps sp) : DOk P w K mg base CX x k sp := ⟨f, fd, ps, d.mg, d.fn.kp, h, d.bd⟩
theorem Dm.ok (d : Dm K C x qual st ps f fd) (h : FnOk P w K mg base CX k f fd ps sp) : MOk P w K mg base CX C x k sp := ⟨f, fd, ps, d.at_, d.isf, d.fn.kp, h, d.bd⟩
end
section
variable {X : Cx} {F : Fm} {own : List Cell} {ρ : Ro} {Q : QE} {QT : QT} {k : Nat} {C : Addr} {pre : List D → Prop} {post : List D → D → Prop} {I : List D → Prop} {I2 : List D → List D → Prop} {x m nm rn : Str} {p pos apos : Pos} {e o : Expr} {es : List Expr} {ns ns' : List Str} {ds ds' : List D} {op : Operator} {i : Int}
theorem E.dcall (G : DOk X.prog X.w X.K X.mg X.base CX0 x k (spF X.K pre post)) (hr : Room k X.A)
    (h : A X F (e :: es) (fun o rs => ∃ ds : List D, rs = ds.map R.d ∧ pre ds ∧ ∀ d, post ds d → Q o (.d d)) own ρ) (hg : Gl X x := by rfl) (hdb : (x == ("__debug__" : Str)) = false := by decide) (he : starEach (e :: es) X.env = (false, eval e X.env) :: starEach es X.env := by rfl)
    (hpl : (backTo pos (starEach es X.env)).any (·.1) = false := by rfl) : E X F (.Call (.Name x p) (e :: es) [] pos) Q own ρ := by
  obtain ⟨f, fd, ps, hm, hk, G, hb⟩ := G
  exact E.call G hr hm hk hb h hg hdb he hpl
theorem E.dcallP (G : DOk X.prog X.w X.K X.mg X.base CX0 x k (spP X.K I pre post)) (hr : Room k X.A)
    (h : A X F (e :: es) (fun o rs => ∃ (n : Nat) (ds : List D), rs = .c n :: ds.map R.d ∧ o[n]? = some (.any I) ∧ pre ds ∧ ∀ d, post ds d → Q o (.d d)) own ρ) (hg : Gl X x := by rfl) (hdb : (x == ("__debug__" : Str)) = false := by decide) (he : starEach (e :: es) X.env = (false, eval e X.env) :: starEach es X.env := by rfl)
    (hpl : (backTo pos (starEach es X.env)).any (·.1) = false := by rfl) : E X F (.Call (.Name x p) (e :: es) [] pos) Q own ρ := by
  obtain ⟨f, fd, ps, hm, hk, G, hb⟩ := G
  exact E.callP G hr hm hk hb h hg hdb he hpl
theorem E.dcallN (G : DOk X.prog X.w X.K X.mg X.base CX0 x k (spN X.K pre I2)) (hr : Room k X.A)
    (h : A X F (e :: es) (fun o rs => ∃ ds : List D, rs = ds.map R.d ∧ pre ds ∧ Q (o ++ [.any (I2 ds)]) (.c o.length)) own ρ) (hg : Gl X x := by rfl) (hdb : (x == ("__debug__" : Str)) = false := by decide) (he : starEach (e :: es) X.env = (false, eval e X.env) :: starEach es X.env := by rfl)
    (hpl : (backTo pos (starEach es X.env)).any (·.1) = false := by rfl) : E X F (.Call (.Name x p) (e :: es) [] pos) Q own ρ := by
  obtain ⟨f, fd, ps, hm, hk, G, hb⟩ := G
  exact E.callN G hr hm hk hb h hg hdb he hpl
/-- C(e, ..) -/
theorem E.dmake {ns : List Str} {dds : List D} {postI : List D → List D → Prop} (G : IOk X.prog X.w X.K X.mg X.base CX0 C k dds (spI X.K C ns pre postI)) (hm : X.mg x = some (.ref C)) (hr : Room (k + 1) X.A)
    (h : A X F (e :: es) (fun o rs => ∃ ds : List D, rs = ds.map R.d ∧ pre (ds ++ dds) ∧ ∀ fs, postI (ds ++ dds) fs → Q o (.d (.ins C ns fs))) own ρ) (hg : Gl X x := by rfl) (hdb : (x == ("__debug__" : Str)) = false := by decide) (he : starEach (e :: es) X.env = (false, eval e X.env) :: starEach es X.env := by rfl)
    (hpl : (backTo pos (starEach es X.env)).any (·.1) = false := by rfl) : E X F (.Call (.Name x p) (e :: es) [] pos) Q own ρ := by
  obtain ⟨f, fd, ps, dvs, dus, M, G, hb, hv, hd⟩ := G
  exact E.make M G hr hm hb hv hd h hg hdb he hpl
theorem E.dmakeX {ns : List Str} {dds : List D} {postI : List D → List D → Prop} {exc : List D → Value → Prop} {XC : Value → List Cell → Ro → Prop} (tk : Tk X F XC) (G : IOk X.prog X.w X.K X.mg X.base (L2.CX X.prog X.w) C k dds (spIX X.K C ns pre postI exc)) (hm : X.mg x = some (.ref C)) (hr : Room (k + 1) X.A)
    (h : A X F (e :: es) (fun o rs => ∃ ds : List D, rs = ds.map R.d ∧ pre (ds ++ dds) ∧ (∀ fs, postI (ds ++ dds) fs → Q o (.d (.ins C ns fs))) ∧ ∀ cls, exc (ds ++ dds) cls → XC cls o ρ) own ρ) (hg : Gl X x := by rfl) (hdb : (x == ("__debug__" : Str)) = false := by decide) (he : starEach (e :: es) X.env = (false, eval e X.env) :: starEach es X.env := by rfl)
    (hpl : (backTo pos (starEach es X.env)).any (·.1) = false := by rfl) : E X F (.Call (.Name x p) (e :: es) [] pos) Q own ρ := by
  obtain ⟨f, fd, ps, dvs, dus, M, G, hb, hv, hd⟩ := G
  exact E.makeX tk M G hr hm hb hv hd h hg hdb he hpl
theorem E.dmeth {pl : Sem Bool} (c : Cls X.K C) (G : MOk X.prog X.w X.K X.mg X.base CX0 C m k (spF X.K pre post)) (hr : Room k X.A)
    (h : E X F o (fun o1 r => ∃ ns ds0, r = .d (.ins C ns ds0) ∧ (ns.zip ds0).lookup m = none ∧ A X F (e :: es) (fun o2 rs => ∃ ds : List D, rs = ds.map R.d ∧ pre (.ins C ns ds0 :: ds) ∧ ∀ d, post (.ins C ns ds0 :: ds) d → Q o2 (.d d)) o1 ρ) own ρ)
    (hst : starEach (e :: es) X.env = (false, eval e X.env) :: starEach es X.env := by rfl) (hpl : (backTo pos (starEach es X.env)).any (·.1) = false := by rfl)
    (ht : eval (.Call (.Attribute o m apos) (e :: es) [] pos) X.env = (do
      let ov ← eval o X.env
      standAt apos.atName
      let (f, first) ← holding [ov] (getMethod ov m pl)
      callWith pos f first (backTo pos (starEach (e :: es) X.env)) (backToKw pos (keywordEach [] X.env))) := by rfl) : E X F (.Call (.Attribute o m apos) (e :: es) [] pos) Q own ρ := by
  obtain ⟨f, fd, ps, h1, h2, h3, G, hb⟩ := G
  exact E.meth (pl := pl) c ⟨h1, h2, h3⟩ G hr hb h hst hpl ht
theorem E.dmeth0 {pl : Sem Bool} (c : Cls X.K C) (G : MOk X.prog X.w X.K X.mg X.base CX0 C m k (spF X.K pre post)) (hr : Room k X.A)
    (h : E X F o (fun o1 r => ∃ ns ds0, r = .d (.ins C ns ds0) ∧ (ns.zip ds0).lookup m = none ∧ pre [.ins C ns ds0] ∧ ∀ d, post [.ins C ns ds0] d → Q o1 (.d d)) own ρ)
    (ht : eval (.Call (.Attribute o m apos) [] [] pos) X.env = (do
      let ov ← eval o X.env
      standAt apos.atName
      let (f, first) ← holding [ov] (getMethod ov m pl)
      callWith pos f first (backTo pos (starEach [] X.env)) (backToKw pos (keywordEach [] X.env))) := by rfl) : E X F (.Call (.Attribute o m apos) [] [] pos) Q own ρ := by
  obtain ⟨f, fd, ps, h1, h2, h3, G, hb⟩ := G
  exact E.meth0 (pl := pl) c ⟨h1, h2, h3⟩ G hr hb h ht
theorem E.dmethX {pl : Sem Bool} {exc : List D → Value → Prop} {XC : Value → List Cell → Ro → Prop} (tk : Tk X F XC) (c : Cls X.K C) (G : MOk X.prog X.w X.K X.mg X.base (L2.CX X.prog X.w) C m k (spX X.K pre post exc)) (hr : Room k X.A)
    (h : E X F o (fun o1 r => ∃ ns ds0, r = .d (.ins C ns ds0) ∧ (ns.zip ds0).lookup m = none ∧ A X F (e :: es) (fun o2 rs => ∃ ds : List D, rs = ds.map R.d ∧ pre (.ins C ns ds0 :: ds) ∧ (∀ d, post (.ins C ns ds0 :: ds) d → Q o2 (.d d)) ∧ ∀ cls, exc (.ins C ns ds0 :: ds) cls → XC cls o2 ρ) o1 ρ) own ρ)
    (hst : starEach (e :: es) X.env = (false, eval e X.env) :: starEach es X.env := by rfl) (hpl : (backTo pos (starEach es X.env)).any (·.1) = false := by rfl)
    (ht : eval (.Call (.Attribute o m apos) (e :: es) [] pos) X.env = (do
      let ov ← eval o X.env
      standAt apos.atName
      let (f, first) ← holding [ov] (getMethod ov m pl)
      callWith pos f first (backTo pos (starEach (e :: es) X.env)) (backToKw pos (keywordEach [] X.env))) := by rfl) : E X F (.Call (.Attribute o m apos) (e :: es) [] pos) Q own ρ := by
  obtain ⟨f, fd, ps, h1, h2, h3, G, hb⟩ := G
  exact E.methX (pl := pl) tk c ⟨h1, h2, h3⟩ G hr hb h hst hpl ht
theorem O2.dB (hc : PySem.W.selfFirst X.K C = true) (hd : PySem.dunder op.info.2 = nm) (G : MOk X.prog X.w X.K X.mg X.base CX0 C nm k (spF X.K pre post)) (hr : Room k X.A)
    (hp : pre [.ins C ns ds, .ins C ns' ds']) (h : ∀ d, post [.ins C ns ds, .ins C ns' ds'] d → Q own (.d d)) : O2 X F (.bin op) (.d (.ins C ns ds)) (.d (.ins C ns' ds')) Q own := by
  subst hd
  obtain ⟨f, fd, ps, h1, h2, h3, G, hb⟩ := G
  exact O2.ownB hc h1 h2 G hr hb hp h
theorem O2.dI {sp2 : Sp} {k2 : Nat} {CX : CXT} (hc : PySem.W.selfFirst X.K C = true) (hd : PySem.dunder op.info.2 = nm) (hd2 : dunderR op.info.2 = rn) (G : MOk X.prog X.w X.K X.mg X.base CX0 C nm k (spF X.K pre post)) (G2 : MOk X.prog X.w X.K X.mg X.base CX C rn k2 sp2) (hr : Room k X.A)
    (h1 : ∃ fo, PySem.W.findIn X.K (.type "int") nm = some fo) (h2 : ∃ ro, PySem.W.findIn X.K (.type "int") rn = some ro) (hsub : PySem.W.subIn X.K (.type "int") (.ref C) = some false)
    (hp : pre [.ins C ns ds, .int i]) (h : ∀ d, post [.ins C ns ds, .int i] d → Q own (.d d)) : O2 X F (.bin op) (.d (.ins C ns ds)) (.d (.int i)) Q own := by
  subst hd; subst hd2
  obtain ⟨f, fd, ps, a1, a2, a3, G, hb⟩ := G
  obtain ⟨g, _, _, b1, _⟩ := G2
  obtain ⟨fo, h1⟩ := h1
  obtain ⟨ro, h2⟩ := h2
  exact O2.ownI hc a1 a2 b1 (.inr ⟨g, rfl⟩) h1 h2 hsub G hr hb hp h
theorem O2.dR {idl : String} {B : Builtin} {sp2 : Sp} {k2 : Nat} {CX : CXT} (hc : PySem.W.selfFirst X.K C = true) (hd : PySem.dunder op.info.2 = nm) (hd2 : dunderR op.info.2 = rn) (G : MOk X.prog X.w X.K X.mg X.base CX0 C rn k (spF X.K pre post)) (G2 : MOk X.prog X.w X.K X.mg X.base CX C nm k2 sp2) (hr : Room k X.A)
    (hfill : fillsNumberSlot (.type "int") op.info.2 = pure true) (slot : Slot "int" nm idl) (entry : entryFor table idl = some B) (args : ∀ i t x, argsOk idl ⟨[.int i t, .ref x], []⟩) (dc : ∀ i t x dx, Own.Decl X.prog X.w B i t x C dx)
    (hsub : PySem.W.subIn X.K (.ref C) (.type "int") = some false) (hp : pre [.ins C ns ds, .int i]) (h : ∀ d, post [.ins C ns ds, .int i] d → Q own (.d d)) : O2 X F (.bin op) (.d (.int i)) (.d (.ins C ns ds)) Q own := by
  subst hd; subst hd2
  obtain ⟨f, fd, ps, a1, a2, a3, G, hb⟩ := G
  obtain ⟨g, _, _, b1, _⟩ := G2
  exact O2.ownR hc b1 a1 a2 hfill slot entry args dc hsub G hr hb hp h
theorem O1.dN (G : MOk X.prog X.w X.K X.mg X.base CX0 C "__neg__" k (spF X.K pre post)) (hr : Room k X.A) (hp : pre [.ins C ns ds]) (h : ∀ d, post [.ins C ns ds] d → Q own (.d d)) : O1 X F .USub (.d (.ins C ns ds)) Q own := by
  obtain ⟨f, fd, ps, a1, a2, a3, G, hb⟩ := G
  exact O1.ownN a1 a2 G hr hb hp h
theorem Cl.dAbs (G : MOk X.prog X.w X.K X.mg X.base CX0 C "__abs__" k (spF X.K pre post)) (hr : Room (k + 1) X.A) (hp : pre [.ins C ns ds]) (h : ∀ d, post [.ins C ns ds] d → Q own (.d d)) : Cl X F (.builtin "abs") [.d (.ins C ns ds)] Q own := by
  obtain ⟨f, fd, ps, a1, a2, a3, G, hb⟩ := G
  exact Cl.absO a1 a2 G hr hb hp h
theorem Cl.dBool (G : MOk X.prog X.w X.K X.mg X.base CX0 C "__bool__" k (spF X.K pre post)) (hr : Room (k + 2) X.A) (hp : pre [.ins C ns ds]) (h : ∀ d, post [.ins C ns ds] d → ∃ b, d = .bl b ∧ Q own (.d (.bl b))) : Cl X F (.type "bool") [.d (.ins C ns ds)] Q own := by
  obtain ⟨f, fd, ps, a1, a2, a3, G, hb⟩ := G
  exact Cl.boolO a1 a2 G hr hb hp h
theorem Tr.dT (G : MOk X.prog X.w X.K X.mg X.base CX0 C "__bool__" k (spF X.K pre post)) (hr : Room k X.A) (hp : pre [.ins C ns ds]) (h : ∀ d, post [.ins C ns ds] d → ∃ b, d = .bl b ∧ QT own b) : Tr X F (.d (.ins C ns ds)) QT own := by
  obtain ⟨f, fd, ps, a1, a2, a3, G, hb⟩ := G
  exact Tr.ownT a1 a2 G hr hb hp h
theorem O2.dEq {ns' : List Str} {ds' : List D} (G : MOk X.prog X.w X.K X.mg X.base CX0 C "__eq__" k (spF X.K pre post)) (hr : Room k X.A) (hn : PySem.W.notFirst X.K C (.ref C) = true) (hp : pre [.ins C ns ds, .ins C ns' ds']) (h : ∀ d, post [.ins C ns ds, .ins C ns' ds'] d → Q own (.d d)) : O2 X F (.cmp .Eq) (.d (.ins C ns ds)) (.d (.ins C ns' ds')) Q own := by
  obtain ⟨f, fd, ps, a1, a2, a3, G, hb⟩ := G
  exact O2.ownEq ty_ins hn a1 a2 G hr hb hp h
theorem O2.dEqI (G : MOk X.prog X.w X.K X.mg X.base CX0 C "__eq__" k (spF X.K pre post)) (hr : Room k X.A) (hn : PySem.W.notFirst X.K C (.type "int") = true) (hp : pre [.ins C ns ds, .int i]) (h : ∀ d, post [.ins C ns ds, .int i] d → Q own (.d d)) : O2 X F (.cmp .Eq) (.d (.ins C ns ds)) (.d (.int i)) Q own := by
  obtain ⟨f, fd, ps, a1, a2, a3, G, hb⟩ := G
  exact O2.ownEq ty_int hn a1 a2 G hr hb hp h
theorem O2.dEqR (G : MOk X.prog X.w X.K X.mg X.base CX0 C "__eq__" k (spF X.K pre post)) (hr : Room k X.A) (hsub : PySem.W.subIn X.K (.ref C) (.type "int") = some false) (hp : pre [.ins C ns ds, .int i]) (h : ∀ d, post [.ins C ns ds, .int i] d → Q own (.d d)) : O2 X F (.cmp .Eq) (.d (.int i)) (.d (.ins C ns ds)) Q own := by
  obtain ⟨f, fd, ps, a1, a2, a3, G, hb⟩ := G
  exact O2.ownEqR a1 a2 hsub G hr hb hp h
theorem O2.dNeI (G : MOk X.prog X.w X.K X.mg X.base CX0 C "__eq__" k (spF X.K pre post)) (hr : Room (k + 1) X.A) (hn : PySem.W.notFirst X.K C (.type "int") = true) (hne : PySem.W.findIn X.K (.ref C) "__ne__" = some (some (.builtin "object.__ne__"))) (hobj : PySem.W.subIn X.K (.ref C) (.type "object") = some true)
    (hp : pre [.ins C ns ds, .int i]) (h : ∀ d, post [.ins C ns ds, .int i] d → ∃ b, d = .bl b ∧ Q own (.d (.bl (!b)))) : O2 X F (.cmp .NotEq) (.d (.ins C ns ds)) (.d (.int i)) Q own := by
  obtain ⟨f, fd, ps, a1, a2, a3, G, hb⟩ := G
  exact O2.ownNe ty_int hn a1 hne a2 hobj G hr hb hp h
end
end DL

namespace DL.Own
open PySem PySem.W PySem.Calls PyProof.Rows
section
variable {prog : Program} {w : World} {A : Around} {E : Value → Shared → Prop} {s : Shared} {K : Frag} {x C L f : Addr} {h₀ : Heap} {m : Str → Option Value} {od : Option Obj} {dx : Addr}
set_option maxHeartbeats 2000000 in
/-- None == instance: the instance's own == -/
theorem rnon_K {Q : Value → Shared → Prop} (hu : A.units < cLine) (F : Fr h₀ L s.heap m) (X₀ : K.In h₀) (I : InstAt s.heap x (instObj C dx) C od) (hs : findIn K (.ref C) "__eq__" = some (some (.ref f))) (hf : isFn K (.ref f) = true) (hsub : subIn K (.ref C) (.type "NoneType") = some false)
    (h : wpAny (model prog w) A (call (.ref f) [.ref x, .none]) (PySem.W.CmpBack Q) E s) : wpAny (model prog w) A (richCompare .Eq .none (.ref x)) Q E s := by
  have X := X₀.keeps F.keep
  have one : wpAny (model prog w) A (tryCompare (.ref x) "__eq__" .none) (fun r s' => ∃ v, r = some v ∧ Q v s') E s := by
    unfold tryCompare
    refine wpAny_bind (ifBound_K X I hs hf (wpAny_mono h (fun v s' hv => ?_) fun _ _ e => e))
    cases v <;> first | exact hv.elim | exact wpAny_pure ⟨_, rfl, hv⟩
  have two : ∀ {Q' : Option Value → Shared → Prop}, Q' none s → wpAny (model prog w) A (tryCompare .none "__eq__" (.ref x)) Q' E s := fun {Q'} q =>
    wpAny_tryCompare_declines (show s.TypeIs .none "NoneType" from rfl) PySem.F.slot_NoneType_eq (call_gives PySem.F.slot_NoneType_eq rfl PySem.F.entry_NoneType_eq (PySem.F.args_NoneType_eq_2 _ _) (PySem.SeqAt.NoneType___eq___none_ref_0 x) ⟨rfl, q⟩)
  unfold richCompare
  refine wpAny_holding (wpAny_bind (wpAny_cRoomFor hu ?_))
  have eo : oneThing? .Eq .none (.ref x) = none := by rfl
  rw [eo]
  have hne : (Value.type "NoneType" != Value.ref C) = true := by
    rw [bne, Bool.not_eq_true']
    exact Bool.eq_false_iff.mpr fun q => by cases beq_iff_eq.mp q
  have L1 : Looks (model prog w) s.heap (typeOf (.ref x)) (.ref C) := I.type
  have L2 : Looks (model prog w) s.heap (typeOf .none) (.type "NoneType") := Looks.of_pure rfl
  refine wpAny_bind (L2.here (wpAny_bind (L1.here ?_)))
  rw [hne]
  simp only [if_true]
  refine wpAny_bind ((looks_subIn X hsub).here ?_)
  simp only [Bool.false_eq_true, if_false, Bool.not_false, if_true]
  refine wpAny_bind (two ?_)
  refine wpAny_bind (wpAny_mono one (fun r s' z => ?_) fun _ _ e => e)
  obtain ⟨v, rfl, hq⟩ := z
  exact wpAny_pure hq
end
end DL.Own
namespace DL
open PySem PySem.Spec PyProof.Rows L2
/-! ### is None -/
def isNon : D → Bool
  | .non => true
  | _ => false
theorem rep_isNon {K : PySem.W.Frag} {G : Hp} {d : D} {v : V} (h : Rep K G d v) : decide (v = V.non) = isNon d := by
  cases d <;> simp only [Rep] at h
  case non => subst h; rfl
  case bl => subst h; rfl
  case int => subst h; rfl
  case str => subst h; rfl
  case ty => subst h; rfl
  case ref => subst h; rfl
  case tup => obtain ⟨p, xs, rfl, _⟩ := h; rfl
  case lst => obtain ⟨p, xs, rfl, _⟩ := h; rfl
  case rol => obtain ⟨p, xs, rfl, _⟩ := h; rfl
  case rot => obtain ⟨p, xs, rfl, _⟩ := h; rfl
  case dct => obtain ⟨p, xs, rfl, _⟩ := h; rfl
  case ins => obtain ⟨p, dx, xs, rfl, _⟩ := h; rfl
section
variable {X : Cx} {F : Fm} {own : List Cell} {ρ : Ro} {Q : QE} {QT : QT} {x : D}
theorem O2.isN (h : Q own (.d (.bl (isNon x)))) : O2 X F (.cmp .Is) (.d x) (.d .non) Q own := by
  constructor
  intro ls H u v st rx ry Qv k
  cases rr_non ry
  exact op_isN.to ⟨rfl, k _ _ _ (.d (.bl _)) _ Le.refl st ir_bl (by rw [rep_isNon rx]; exact h)⟩
theorem O2.notN (h : Q own (.d (.bl (!isNon x)))) : O2 X F (.cmp .IsNot) (.d x) (.d .non) Q own := by
  constructor
  intro ls H u v st rx ry Qv k
  cases rr_non ry
  exact op_notN.to ⟨rfl, k _ _ _ (.d (.bl _)) _ Le.refl st ir_bl (by rw [rep_isNon rx]; exact h)⟩
theorem O2.eqNN (h : Q own (.d (.bl true))) : O2 X F (.cmp .Eq) (.d .non) (.d .non) Q own := by
  constructor
  intro ls H u v st rx ry Qv k
  cases rr_non rx
  cases rr_non ry
  exact op_eq.to ⟨rfl, k _ _ _ (.d (.bl _)) _ Le.refl st ir_bl (by exact h)⟩
/-! ### isinstance, for data of any kind -/
structure TyD (X : Cx) (d : D) (t : Value) : Prop where
  run : ∀ (G H : Hp) (v : V), Same G H → Rep X.K G d v → TyX X.K H v t
theorem TyD.non : TyD X .non (.type "NoneType") := ⟨fun G H v _ h => by simp only [Rep] at h; subst h; exact .base .non⟩
theorem TyD.bl {b : Bool} : TyD X (.bl b) (.type "bool") := ⟨fun G H v _ h => by simp only [Rep] at h; subst h; exact .base (.bl b)⟩
theorem TyD.int {i : Int} : TyD X (.int i) (.type "int") := ⟨fun G H v _ h => by simp only [Rep] at h; subst h; exact .base (.int i)⟩
theorem TyD.str {s : Str} : TyD X (.str s) (.type "str") := ⟨fun G H v _ h => by simp only [Rep] at h; subst h; exact .base (.str s)⟩
theorem TyD.lst {ds : List D} : TyD X (.lst ds) (.type "list") := ⟨fun G H v e h => by
  simp only [Rep] at h
  obtain ⟨p, xs, rfl, h1, _⟩ := h
  exact .base (.lst (e _ _ h1))⟩
theorem TyD.tup {ds : List D} : TyD X (.tup ds) (.type "tuple") := ⟨fun G H v e h => by
  simp only [Rep] at h
  obtain ⟨p, xs, rfl, h1, _⟩ := h
  exact .base (.tup (e _ _ h1))⟩
theorem TyD.rot {ds : List D} : TyD X (.rot ds) (.type "tuple") := ⟨fun G H v e h => by
  simp only [Rep] at h
  obtain ⟨p, xs, rfl, h1, _⟩ := h
  rcases h1 with (h1 | ⟨o, h1⟩) | ⟨o, its, n, h1, h2, _⟩
  · exact .base (.tup (e _ _ h1))
  · exact .fTuple (e _ _ h1)
  · exact .kTuple h1 h2⟩
theorem TyD.ins {C : Addr} {ns : List Str} {ds : List D} (T : IsC X.K C) : TyD X (.ins C ns ds) (.ref C) := ⟨fun G H v e h => by
  simp only [Rep] at h
  obtain ⟨p, dx, xs, rfl, h1, _⟩ := h
  exact .base (.ins (e _ _ h1) T.cl T.ha T.hn T.htk T.hm)⟩
theorem Cl.isi {c : D} {t u : Value} {b : Bool} (ty : TyD X x t) (hc : ∀ G v, Rep X.K G c v → ClsV v u) (hk : PySem.W.kitOne X.K t u = some b) (h : Q own (.d (.bl b))) : Cl X F (.builtin "isinstance") [.d x, .d c] Q own := by
  constructor
  intro ls H vs st rr Qv k
  obtain ⟨v, w, rfl, rv, rw'⟩ := rrs2 rr
  exact call_isi.to ⟨_, w, _, u, b, rfl, hc _ _ rw', ty.run _ _ _ (msk_same _ _) rv, hk, k _ _ _ (.d (.bl b)) _ Le.refl st ir_bl h⟩
/-- isinstance(e, (c1, ..)) -/
theorem E.isiT {e : Expr} {cs : List Expr} {p pos tp : Pos} {k0 : Nat} (hm : X.mg "isinstance" = none) (h : E X F e (fun o r => ∃ x t, r = .d x ∧ TyD X x t ∧ A X F cs (fun o2 rs => ∃ (ds : List D) (us : List Value) (b : Bool), rs = ds.map R.d ∧ ds.length ≤ sizeLine ∧ (∀ G vs, Reps X.K G ds vs → Paired ClsV vs us) ∧ PySem.W.kitAny X.K t us = some b ∧ Q o2 (.d (.bl b))) o ρ) own ρ)
    (hv : bootBuiltins "isinstance" = some (.builtin "isinstance") := by decide +kernel) (hg : Gl X "isinstance" := by rfl)
    (he : starEach [e, .Tuple cs k0 tp] X.env = (false, eval e X.env) :: starEach [.Tuple cs k0 tp] X.env := by rfl) (he2 : starEach [.Tuple cs k0 tp] X.env = (false, eval (.Tuple cs k0 tp) X.env) :: starEach [] X.env := by rfl) (hpl : (backTo pos (starEach [.Tuple cs k0 tp] X.env)).any (·.1) = false := by rfl) :
    E X F (.Call (.Name "isinstance" p) [e, .Tuple cs k0 tp] [] pos) Q own ρ := by
  constructor
  intro ls σ H st sr Qv k
  refine (pe_callB call_isiT hg hm hv (pa_cons pe_we (pa_cons (pe_tup pa_wa) pa_nil he2) he) (by decide) (by decide) he hpl).to ?_
  refine h ls σ H st sr _ fun ls1 own1 H1 r u l1 s1 rr ⟨x, t, er, ty, ha⟩ => ?_
  subst er
  refine ha ls1 σ H1 s1 (sr.up l1.pre l1.same) _ fun ls2 own2 H2 rs vs l2 s2 rr2 ⟨ds, us, b, er, hl, hc, hk, q⟩ => ?_
  subst er
  have rd := RReps.toD rr2
  refine ⟨by rw [← rd.length]; exact hl, fun p hp => ?_⟩
  refine ⟨_, p, vs, t, us, b, rfl, upd_same, hc _ _ rd, ty.run _ _ _ (((msk_same _ _)).trans (same_new hp)) (rr.up l2.pre l2.same), hk, ?_⟩
  exact k _ _ _ (.d (.bl b)) _ ((l1.trans l2).trans (Le.grow (same_new hp))) (s2.grow (same_new hp)) ir_bl q
end
/-! ### own classes: None, in -/
section
variable {X : Cx} {F : Fm} {own : List Cell} {ρ : Ro} {Q : QE} {k : Nat} {C : Addr} {pre : List D → Prop} {post : List D → D → Prop} {ns : List Str} {ds : List D} {y : D}
theorem ty_non (ls : List Addr) (own : List Cell) (H : Hp) (v : V) (pins : List (Addr × Obj)) (σ : L2.St) (s : Shared) (u : Value) (h : RRep X.K ls (F.g ls own H) (.d .non) v) (_ : Inv X pins σ H s) (r : RelV v u) : PySem.W.Looks (model X.prog X.w) s.heap (typeOf u) (.type "NoneType") := by
  cases rr_non h
  cases r
  exact PySem.W.Looks.of_pure rfl
theorem O2.dEqN (G : MOk X.prog X.w X.K X.mg X.base CX0 C "__eq__" k (spF X.K pre post)) (hr : Room k X.A) (hn : PySem.W.notFirst X.K C (.type "NoneType") = true) (hp : pre [.ins C ns ds, .non]) (h : ∀ d, post [.ins C ns ds, .non] d → Q own (.d d)) : O2 X F (.cmp .Eq) (.d (.ins C ns ds)) (.d .non) Q own := by
  obtain ⟨f, fd, ps, a1, a2, a3, G, hb⟩ := G
  exact O2.ownEq ty_non hn a1 a2 G hr hb hp h
theorem O2.dNEq (G : MOk X.prog X.w X.K X.mg X.base CX0 C "__eq__" k (spF X.K pre post)) (hr : Room k X.A) (hsub : PySem.W.subIn X.K (.ref C) (.type "NoneType") = some false) (hp : pre [.ins C ns ds, .non]) (h : ∀ d, post [.ins C ns ds, .non] d → Q own (.d d)) : O2 X F (.cmp .Eq) (.d .non) (.d (.ins C ns ds)) Q own := by
  obtain ⟨f, fd, ps, a1, a2, a3, G, hb⟩ := G
  constructor
  intro ls H u v st rx ry Qv kk pins σ s uu vv I ru rv
  obtain ⟨a, dx, fs, rfl, ha⟩ := ins_at st ry
  cases rr_non rx
  cases rv
  cases ru
  obtain ⟨mA, J, _⟩ := ins_get I.hok ha
  obtain ⟨od, J, _⟩ := J.look
  obtain ⟨m, hF⟩ := I.fr
  show wpAny (model X.prog X.w) X.A (richCompare .Eq .none (.ref a)) (EP X pins σ Qv) X.xe s
  refine Own.rnon_K hr.units0 hF I.ok.mod.kin J a1 a2 hsub ?_
  exact thn (run_at (vs := [.ref a, .non]) G rfl hr hb I (.cons rfl (.cons rfl .nil)) (spF_use st (Reps.cons ry (Reps.cons rx Reps.nil)) hp kk h _)) fun u s q => ep_back q
/-- y in x by __contains__ -/
theorem O2.dIn (G : MOk X.prog X.w X.K X.mg X.base CX0 C "__contains__" k (spF X.K pre post)) (hr : Room k X.A) (hp : pre [.ins C ns ds, y]) (h : ∀ d, post [.ins C ns ds, y] d → ∃ b, d = .bl b ∧ Q own (.d (.bl b))) : O2 X F (.cmp .In) (.d y) (.d (.ins C ns ds)) Q own := by
  obtain ⟨f, fd, ps, a1, a2, a3, G, hb⟩ := G
  constructor
  intro ls H u v st rx ry Qv kk pins σ s uu vv I ru rv
  obtain ⟨a, dx, fs, rfl, ha⟩ := ins_at st ry
  cases rv
  obtain ⟨mA, J, _⟩ := ins_get I.hok ha
  obtain ⟨od, J, _⟩ := J.look
  obtain ⟨m, hF⟩ := I.fr
  show wpAny (model X.prog X.w) X.A (compareOp .In uu (.ref a)) (EP X pins σ Qv) X.xe s
  refine PySem.W.in_K hF I.ok.mod.kin J a1 a2 ?_
  refine thn (run_at (vs := [.ref a, u]) G rfl hr hb I (.cons rfl (.cons ru .nil)) (spF_use (Q := fun o r => ∃ b, r = .d (.bl b) ∧ Q o (.d (.bl b))) st (Reps.cons ry (Reps.cons rx Reps.nil)) hp (Qv := fun v H' => ∃ b, v = .bl b ∧ Qv (.bl b) H') (fun ls' own' H' r v l s1 rr ⟨b, e, q⟩ => by subst e; exact ⟨b, rr_bl rr, kk _ _ _ (.d (.bl b)) _ l s1 ir_bl q⟩) (fun d hd => by obtain ⟨b, rfl, q⟩ := h d hd; exact ⟨b, rfl, q⟩) _)) fun u s q => ?_
  obtain ⟨v, H', I', r, b, rfl, q⟩ := q
  cases r
  exact wpAny_truthy_bool ⟨.bl b, H', I', rfl, q⟩
end
/-! ### lists of flat data, unlike -/
section
variable {X : Cx} {F : Fm} {own : List Cell} {ρ : Ro} {Q : QE} {P : Po} {e a b tg : Expr} {es : List Expr} {pos : Pos} {body : List Stmt}
theorem O2.neL {xs ys : List FlatD} {a b : List D} {r : Bool} (hu : X.A.units + 64 < cLine) (ha : a = xs.map FlatD.d) (hb : b = ys.map FlatD.d) (sa : SeqAt.shaped (.list (xs.map FlatD.p)) = true) (sb : SeqAt.shaped (.list (ys.map FlatD.p)) = true) (hr : PyData.eqv (.list (xs.map FlatD.p)) (.list (ys.map FlatD.p)) = r) (h : Q own (.d (.bl (!r)))) :
    O2 X F (.cmp .NotEq) (.d (.lst a)) (.d (.lst b)) Q own := by
  constructor
  subst ha; subst hb
  intro ls H u v st rx ry Qv k
  obtain ⟨p, vs, rfl, hs, hv⟩ := lst_rr rx
  obtain ⟨q, ws, rfl, hs', hw⟩ := lst_rr ry
  exact (op_neD hu).to ⟨_, _, .lst (sq_h hs) (dp_flat hv), .lst (sq_h hs') (dp_flat hw), sa, sb, k _ _ _ (.d (.bl _)) _ Le.refl st ir_bl (by rw [hr]; exact h)⟩
/-! ### zip -/
theorem W1.forZL {e2 : Expr} {elts : List Expr} {kk : Nat} {tp p cp : Pos} (I : Nat → List Cell → Ro → Prop) (hm : X.mg "zip" = none) (hc : X.calm = true) (hp : PassesOwn (model X.prog X.w) X.A X.env X.xe)
    (h : A X F [e, e2] (fun o rs => ∃ xs ys : List D, rs = [.d (.lst xs), .d (.lst ys)] ∧ xs.length = ys.length ∧ I 0 o ρ ∧ (∀ i x y o' ρ', xs[i]? = some x → ys[i]? = some y → I i o' ρ' → Tg X F (.Tuple elts kk tp) (.d (.tup [x, y])) (fun o2 ρ2 => W X F body { nx := I (i + 1), rt := P.rt, bk := P.nx, ct := I (i + 1) } o2 ρ2) o' ρ') ∧ ∀ o' ρ', I xs.length o' ρ' → P.nx o' ρ') own ρ)
    (hg : Gl X "zip" := by rfl) (hs : ∀ x, foldedSetIterable (.Call (.Name "zip" p) [e, e2] [] cp) X.env x = pure x := by intro _; rfl) (he : starEach [e, e2] X.env = (false, eval e X.env) :: starEach [e2] X.env := by rfl) (hpl : (backTo cp (starEach [e2] X.env)).any (·.1) = false := by rfl) :
    W1 X F (.For (.Tuple elts kk tp) (.Call (.Name "zip" p) [e, e2] [] cp) body [] pos) P own ρ := by
  constructor
  intro ls σ H s0 sr De k
  refine (ps_for hp hc (RZ.pi_zipA hg hm pa_wa he hpl) pg_w pss_ws hs).to ?_
  refine h ls σ H s0 sr _ fun ls1 own1 H1 rs vs l1 s1 rr ⟨xs, ys, er, hl, i0, turn, fin⟩ => ?_
  subst er
  obtain ⟨v, w, rfl, rv, rw'⟩ := rrs2 rr
  obtain ⟨pa, xv, rfl, hq, hr⟩ := lst_rr rv
  obtain ⟨pb, yv, rfl, hq', hr'⟩ := lst_rr rw'
  refine ⟨pa, pb, xv, yv, rfl, .inl ⟨sq_h hq, sq_h hq', ?_⟩⟩
  have st2 : ∀ {i : Nat} {σ' : L2.St} {H' : Hp}, Pv X F ls1 own1 H1 I i σ' H' → SqL X.K H' pa xv ∧ SqL X.K H' pb yv := fun ⟨_, _, _, l, _⟩ => ⟨sq_h (l.same _ _ hq), sq_h (l.same _ _ hq')⟩
  refine RZ.for_zipL (xs := xv) (ys := yv) (by rw [← hr.length, ← hr'.length]; exact hl) (Pv X F ls1 own1 H1 I) ⟨ls1, own1, ρ, Le.refl, s1, sr.up l1.pre l1.same, i0⟩ (fun i σ' H' p => st2 p) ?_ ?_
  · rintro i x y T σ' H' hx hy ⟨ls2, own2, ρ2, l2, s2, sr2, ii⟩ hT
    have hi : i < xs.length := by rw [hr.length]; exact (List.getElem?_eq_some_iff.mp hx).1
    have hi' : i < ys.length := by omega
    have hdi : xs[i]? = some xs[i] := List.getElem?_eq_getElem hi
    have hdj : ys[i]? = some ys[i] := List.getElem?_eq_getElem hi'
    obtain ⟨x', e1, e2⟩ := hr.get hdi
    obtain ⟨y', f1, f2⟩ := hr'.get hdj
    rw [hx] at e1
    rw [hy] at f1
    cases e1; cases f1
    have gr := Le.grow (F := F) (ls := ls2) (own := own2) (same_new (o := .tup [x, y]) hT)
    refine turn i _ _ own2 ρ2 hdi hdj ii ls2 σ' _ (.ref T) (s2.grow (same_new hT)) (sr2.up gr.pre gr.same) (by simp only [RRep, Rep]; exact ⟨T, [x, y], rfl, s2.seen hT, Reps.mono gr.same (Reps.mono l2.same (Reps.cons e2 (Reps.cons f2 Reps.nil)))⟩) _ fun ls3 own3 H3 ρ3 σ3 l3 s3 sr3 q => ?_
    exact q ls3 σ3 H3 s3 sr3 _ ⟨fun _ _ _ _ _ l s r q => ⟨_, _, _, ((l2.trans gr).trans l3).trans l, s, r, q⟩, fun _ _ _ _ _ l s r q => k.rt _ _ _ _ _ (l1.trans (((l2.trans gr).trans l3).trans l)) s r q, fun _ _ _ _ _ l s r q => k.nx _ _ _ _ _ (l1.trans (((l2.trans gr).trans l3).trans l)) s r q, fun _ _ _ _ _ l s r q => ⟨_, _, _, ((l2.trans gr).trans l3).trans l, s, r, q⟩⟩
  · rintro σ' H' ⟨ls2, own2, ρ2, l2, s2, sr2, ii⟩
    rw [← hr.length] at ii
    exact k.nx _ _ _ _ _ (l1.trans l2) s2 sr2 (fin _ _ ii)
theorem W1.forZT {e2 : Expr} {elts : List Expr} {kk : Nat} {tp p cp : Pos} (I : Nat → List Cell → Ro → Prop) (hm : X.mg "zip" = none) (hc : X.calm = true) (hp : PassesOwn (model X.prog X.w) X.A X.env X.xe)
    (h : A X F [e, e2] (fun o rs => ∃ xs ys : List D, rs = [.d (.tup xs), .d (.tup ys)] ∧ xs.length = ys.length ∧ I 0 o ρ ∧ (∀ i x y o' ρ', xs[i]? = some x → ys[i]? = some y → I i o' ρ' → Tg X F (.Tuple elts kk tp) (.d (.tup [x, y])) (fun o2 ρ2 => W X F body { nx := I (i + 1), rt := P.rt, bk := P.nx, ct := I (i + 1) } o2 ρ2) o' ρ') ∧ ∀ o' ρ', I xs.length o' ρ' → P.nx o' ρ') own ρ)
    (hg : Gl X "zip" := by rfl) (hs : ∀ x, foldedSetIterable (.Call (.Name "zip" p) [e, e2] [] cp) X.env x = pure x := by intro _; rfl) (he : starEach [e, e2] X.env = (false, eval e X.env) :: starEach [e2] X.env := by rfl) (hpl : (backTo cp (starEach [e2] X.env)).any (·.1) = false := by rfl) :
    W1 X F (.For (.Tuple elts kk tp) (.Call (.Name "zip" p) [e, e2] [] cp) body [] pos) P own ρ := by
  constructor
  intro ls σ H s0 sr De k
  refine (ps_for hp hc (RZ.pi_zipA hg hm pa_wa he hpl) pg_w pss_ws hs).to ?_
  refine h ls σ H s0 sr _ fun ls1 own1 H1 rs vs l1 s1 rr ⟨xs, ys, er, hl, i0, turn, fin⟩ => ?_
  subst er
  obtain ⟨v, w, rfl, rv, rw'⟩ := rrs2 rr
  obtain ⟨pa, xv, rfl, hq, hr⟩ := tup_rr rv
  obtain ⟨pb, yv, rfl, hq', hr'⟩ := tup_rr rw'
  refine ⟨pa, pb, xv, yv, rfl, .inr ⟨Same.seqT (msk_same _ _) hq, Same.seqT (msk_same _ _) hq', ?_⟩⟩
  have st2 : ∀ {i : Nat} {σ' : L2.St} {H' : Hp}, Pv X F ls1 own1 H1 I i σ' H' → SqT X.K H' pa xv ∧ SqT X.K H' pb yv := fun ⟨_, _, _, l, _⟩ => ⟨Same.seqT (msk_same _ _) (Same.seqT l.same hq), Same.seqT (msk_same _ _) (Same.seqT l.same hq')⟩
  refine RZ.for_zipT (xs := xv) (ys := yv) (by rw [← hr.length, ← hr'.length]; exact hl) (Pv X F ls1 own1 H1 I) ⟨ls1, own1, ρ, Le.refl, s1, sr.up l1.pre l1.same, i0⟩ (fun i σ' H' p => st2 p) ?_ ?_
  · rintro i x y T σ' H' hx hy ⟨ls2, own2, ρ2, l2, s2, sr2, ii⟩ hT
    have hi : i < xs.length := by rw [hr.length]; exact (List.getElem?_eq_some_iff.mp hx).1
    have hi' : i < ys.length := by omega
    have hdi : xs[i]? = some xs[i] := List.getElem?_eq_getElem hi
    have hdj : ys[i]? = some ys[i] := List.getElem?_eq_getElem hi'
    obtain ⟨x', e1, e2⟩ := hr.get hdi
    obtain ⟨y', f1, f2⟩ := hr'.get hdj
    rw [hx] at e1
    rw [hy] at f1
    cases e1; cases f1
    have gr := Le.grow (F := F) (ls := ls2) (own := own2) (same_new (o := .tup [x, y]) hT)
    refine turn i _ _ own2 ρ2 hdi hdj ii ls2 σ' _ (.ref T) (s2.grow (same_new hT)) (sr2.up gr.pre gr.same) (by simp only [RRep, Rep]; exact ⟨T, [x, y], rfl, s2.seen hT, Reps.mono gr.same (Reps.mono l2.same (Reps.cons e2 (Reps.cons f2 Reps.nil)))⟩) _ fun ls3 own3 H3 ρ3 σ3 l3 s3 sr3 q => ?_
    exact q ls3 σ3 H3 s3 sr3 _ ⟨fun _ _ _ _ _ l s r q => ⟨_, _, _, ((l2.trans gr).trans l3).trans l, s, r, q⟩, fun _ _ _ _ _ l s r q => k.rt _ _ _ _ _ (l1.trans (((l2.trans gr).trans l3).trans l)) s r q, fun _ _ _ _ _ l s r q => k.nx _ _ _ _ _ (l1.trans (((l2.trans gr).trans l3).trans l)) s r q, fun _ _ _ _ _ l s r q => ⟨_, _, _, ((l2.trans gr).trans l3).trans l, s, r, q⟩⟩
  · rintro σ' H' ⟨ls2, own2, ρ2, l2, s2, sr2, ii⟩
    rw [← hr.length] at ii
    exact k.nx _ _ _ _ _ (l1.trans l2) s2 sr2 (fin _ _ ii)
end
end DL

namespace DL
open PySem PySem.Spec PyProof.Rows L2
section
variable {X : Cx} {F : Fm} {own : List Cell} {ρ : Ro} {Q : QE} {k : Nat} {C g p0 : Addr} {mc : Value} {pre : List D → Prop} {post : List D → D → Prop} {exc : List D → Value → Prop} {XC : Value → List Cell → Ro → Prop} {x m : Str} {p pos apos : Pos} {e o : Expr} {es : List Expr}
/-- a def of the module that may raise -/
theorem E.dcallX (tk : Tk X F XC) (G : DOk X.prog X.w X.K X.mg X.base (L2.CX X.prog X.w) x k (spX X.K pre post exc)) (hr : Room k X.A)
    (h : A X F (e :: es) (fun o rs => ∃ ds : List D, rs = ds.map R.d ∧ pre ds ∧ (∀ d, post ds d → Q o (.d d)) ∧ ∀ cls, exc ds cls → XC cls o ρ) own ρ) (hg : Gl X x := by rfl) (hdb : (x == ("__debug__" : Str)) = false := by decide) (he : starEach (e :: es) X.env = (false, eval e X.env) :: starEach es X.env := by rfl)
    (hpl : (backTo pos (starEach es X.env)).any (·.1) = false := by rfl) : E X F (.Call (.Name x p) (e :: es) [] pos) Q own ρ := by
  obtain ⟨f, fd, ps, hm, hk, G, hb⟩ := G
  constructor
  intro ls σ H st sr Qv kk pins s I
  obtain ⟨W0, t, hw⟩ := tk
  refine wpAny_Call_Name_kw (ld_glob I hg hm ?_ hdb)
  refine PySem.W.callWith_K (h₀ := X.base) I.ok.mod.kin hk (thn (h ls σ H st sr (fun vs H1 => spX X.K pre post exc vs H1 Qv (WE W0 σ)) (fun ls1 own1 H1 rs vs l1 s1 rr ⟨ds, er, hp, q, qe⟩ => ?_) pos pins s I) fun us s1 ⟨vs, H1, I1, r, q⟩ => ⟨I1.kIn, ?_⟩) he hpl
  · subst er
    exact spX_use s1 (sr.up l1.pre l1.same) (RReps.toD rr) hp (fun _ _ _ _ _ l => kk _ _ _ _ _ (l1.trans l)) q hw qe
  · exact run_fnS (E := WE W0) G hr hb (passAt t σ) I1 r q
/-- C(..) where a name of the def holds the class -/
theorem E.makeV (i : Nat) {ns : List Str} {dds : List D} {postI : List D → List D → Prop} (G : IOk X.prog X.w X.K X.mg X.base CX0 C k dds (spI X.K C ns pre postI)) (hi : ρ[i]? = some (some (.d (.ref C)))) (hr : Room (k + 1) X.A)
    (h : A X F (e :: es) (fun o rs => ∃ ds : List D, rs = ds.map R.d ∧ pre (ds ++ dds) ∧ ∀ fs, postI (ds ++ dds) fs → Q o (.d (.ins C ns fs))) own ρ) (hN : X.N[i]? = some x := by rfl) (hv : Vis X.env.scope x := by first | exact Or.inl rfl | exact Or.inr (Or.inl rfl) | exact Or.inr (Or.inr rfl))
    (hdb : (x == ("__debug__" : Str)) = false := by decide) (hcd : (x == ("__classdict__" : Str)) = false := by decide) (he : starEach (e :: es) X.env = (false, eval e X.env) :: starEach es X.env := by rfl)
    (hpl : (backTo pos (starEach es X.env)).any (·.1) = false := by rfl) : E X F (.Call (.Name x p) (e :: es) [] pos) Q own ρ := by
  obtain ⟨f, fd, ps, dvs, dus, M, G, hb, hv', hd⟩ := G
  constructor
  intro ls σ H st sr Qv kk pins s I
  obtain ⟨v0, hs, rv⟩ := sr.get hi
  cases rr_ref rv
  refine wpAny_Call_Name_kw (thn ((pe_var (pos := p) hN hv hdb hcd).run pins s σ H (fun v H1 => v = .ref C ∧ H1 = H) I ⟨.ref C, hs, rfl, rfl⟩) fun u s0 ⟨v, H1, I0, r1, q1⟩ => ?_)
  obtain ⟨rfl, rfl⟩ := q1
  cases r1
  refine PySem.W.callWith_K (h₀ := X.base) I.ok.mod.kin M.kp (thn (h ls σ H1 st sr (fun vs H2 => ∀ a dx, H2 a = none → H2 dx = none → dx ≠ a → spI X.K C ns pre postI (.ref a :: (vs ++ dvs)) (upd (upd H2 dx (.own a)) a (.ins C dx [])) (fun v H3 => v = .non ∧ Qv (.ref a) H3) E0) (fun ls1 own1 H2 rs vs l1 s1 rr ⟨ds, er, hp, q⟩ => ?_) pos pins s0 I0) fun us s1 ⟨vs, H2, I1, r, q⟩ => ⟨I1.kIn, ?_⟩) he hpl
  · subst er
    intro a dx ha hdx hne
    have hid : a ∉ F.S0 ++ live ls1 own1 := fun z => (s1.hid a z).ne ha
    have sm0 : Same H2 (upd (upd H2 dx (.own a)) a (.ins C dx [])) := fun b o e => by rw [upd_ne (ne_of_none e ha), upd_ne (ne_of_none e hdx)]; exact e
    refine ⟨F.S0 ++ live ls1 own1, a, dx, _, ds ++ dds, rfl, hid, fun b hb => ?_, upd_same, ?_, hp, fun H' dx' xs fs hm' a1 a2 a3 a4 => ⟨rfl, ?_⟩⟩
    · exact (s1.hid b hb).up (sm0 b)
    · refine Reps.append (Reps.mono (fun b o e => ?_) (RReps.toD rr)) (hd _)
      have hb : b ≠ a := fun z => by
        subst z
        have := msk_same _ _ _ _ e
        rw [ha] at this; cases this
      have e : msk (F.S0 ++ live ls1 own1) H2 b = some o := e
      unfold msk at e ⊢
      split at e
      · cases e
      · rename_i hn
        rw [if_neg (by rw [List.mem_append, List.mem_singleton]; exact fun z => z.elim hn hb)]
        exact sm0 b o e
    · have sm : Same H2 H' := fun b o e => hm' b o (fun z => by subst z; rw [ha] at e; cases e) (sm0 b o e)
      refine kk ls1 own1 H' (.d (.ins C ns fs)) _ (l1.trans (Le.grow sm)) (s1.grow sm) ?_ (q fs a4)
      simp only [RRep, Rep]
      refine ⟨a, dx', xs, rfl, ?_, a2, Reps.mono (msk_le fun b hb => List.mem_append_left _ hb) a3⟩
      show msk (F.S0 ++ live ls1 own1) H' a = _
      rw [msk_out hid]
      exact a1
  · exact run_make M G hr hb hv' pass0 I1 r q
theorem E.makeVX (i : Nat) {ns : List Str} {dds : List D} {postI : List D → List D → Prop} (tk : Tk X F XC) (G : IOk X.prog X.w X.K X.mg X.base (L2.CX X.prog X.w) C k dds (spIX X.K C ns pre postI exc)) (hi : ρ[i]? = some (some (.d (.ref C)))) (hr : Room (k + 1) X.A)
    (h : A X F (e :: es) (fun o rs => ∃ ds : List D, rs = ds.map R.d ∧ pre (ds ++ dds) ∧ (∀ fs, postI (ds ++ dds) fs → Q o (.d (.ins C ns fs))) ∧ ∀ cls, exc (ds ++ dds) cls → XC cls o ρ) own ρ) (hN : X.N[i]? = some x := by rfl) (hv : Vis X.env.scope x := by first | exact Or.inl rfl | exact Or.inr (Or.inl rfl) | exact Or.inr (Or.inr rfl))
    (hdb : (x == ("__debug__" : Str)) = false := by decide) (hcd : (x == ("__classdict__" : Str)) = false := by decide) (he : starEach (e :: es) X.env = (false, eval e X.env) :: starEach es X.env := by rfl)
    (hpl : (backTo pos (starEach es X.env)).any (·.1) = false := by rfl) : E X F (.Call (.Name x p) (e :: es) [] pos) Q own ρ := by
  obtain ⟨f, fd, ps, dvs, dus, M, G, hb, hv', hd⟩ := G
  constructor
  intro ls σ H st sr Qv kk pins s I
  obtain ⟨W0, t, hw⟩ := tk
  obtain ⟨v0, hs, rv⟩ := sr.get hi
  cases rr_ref rv
  refine wpAny_Call_Name_kw (thn ((pe_var (pos := p) hN hv hdb hcd).run pins s σ H (fun v H1 => v = .ref C ∧ H1 = H) I ⟨.ref C, hs, rfl, rfl⟩) fun u s0 ⟨v, H1, I0, r1, q1⟩ => ?_)
  obtain ⟨rfl, rfl⟩ := q1
  cases r1
  refine PySem.W.callWith_K (h₀ := X.base) I.ok.mod.kin M.kp (thn (h ls σ H1 st sr (fun vs H2 => ∀ a dx, H2 a = none → H2 dx = none → dx ≠ a → spIX X.K C ns pre postI exc (.ref a :: (vs ++ dvs)) (upd (upd H2 dx (.own a)) a (.ins C dx [])) (fun v H3 => v = .non ∧ Qv (.ref a) H3) (WE W0 σ)) (fun ls1 own1 H2 rs vs l1 s1 rr ⟨ds, er, hp, q, qe⟩ => ?_) pos pins s0 I0) fun us s1 ⟨vs, H2, I1, r, q⟩ => ⟨I1.kIn, ?_⟩) he hpl
  · subst er
    intro a dx ha hdx hne
    have hid : a ∉ F.S0 ++ live ls1 own1 := fun z => (s1.hid a z).ne ha
    have sm0 : Same H2 (upd (upd H2 dx (.own a)) a (.ins C dx [])) := fun b o e => by rw [upd_ne (ne_of_none e ha), upd_ne (ne_of_none e hdx)]; exact e
    refine ⟨F.S0 ++ live ls1 own1, a, dx, _, ds ++ dds, rfl, hid, fun b hb => ?_, upd_same, ?_, hp, fun H' dx' xs fs hm' a1 a2 a3 a4 => ⟨rfl, ?_⟩, fun cls H' hm' he => ?_⟩
    · exact (s1.hid b hb).up (sm0 b)
    · refine Reps.append (Reps.mono (fun b o e => ?_) (RReps.toD rr)) (hd _)
      have hb : b ≠ a := fun z => by
        subst z
        have := msk_same _ _ _ _ e
        rw [ha] at this; cases this
      have e : msk (F.S0 ++ live ls1 own1) H2 b = some o := e
      unfold msk at e ⊢
      split at e
      · cases e
      · rename_i hn
        rw [if_neg (by rw [List.mem_append, List.mem_singleton]; exact fun z => z.elim hn hb)]
        exact sm0 b o e
    · have sm : Same H2 H' := fun b o e => hm' b o (fun z => by subst z; rw [ha] at e; cases e) (sm0 b o e)
      refine kk ls1 own1 H' (.d (.ins C ns fs)) _ (l1.trans (Le.grow sm)) (s1.grow sm) ?_ (q fs a4)
      simp only [RRep, Rep]
      refine ⟨a, dx', xs, rfl, ?_, a2, Reps.mono (msk_le fun b hb => List.mem_append_left _ hb) a3⟩
      show msk (F.S0 ++ live ls1 own1) H' a = _
      rw [msk_out hid]
      exact a1
    · have sm : Same H2 H' := fun b o e => hm' b o (fun z => by subst z; rw [ha] at e; cases e) (sm0 b o e)
      exact hw ls1 own1 H' ρ σ cls (s1.grow sm) (sr.up l1.pre (l1.same.trans (Le.grow sm (own := own1) (ls := ls1) (F := F)).same)) (qe cls he)
  · exact run_makeS (E := WE W0 σ) M G hr hb hv' (passAt t σ) I1 r q
/-! ### classmethods read off the class -/
/-- a classmethod and its promise (its first argument is the class) -/
def COk (P : Program) (w : World) (K : PySem.W.Frag) (mg : Str → Option Value) (base : Heap) (CX : CXT) (C : Addr) (m : Str) (k : Nat) (sp : Sp) : Prop :=
  ∃ mc p g fd ps, ClX.CRead K C mc ∧ ClX.CMet K C mc m p g ∧ FnOk P w K mg base CX k g fd ps sp ∧ Binds K fd ps []
theorem E.cm {pl : Sem Bool} (G : COk X.prog X.w X.K X.mg X.base CX0 C m k (spF X.K pre post)) (hr : Room k X.A)
    (h : E X F o (fun o1 r => r = .d (.ref C) ∧ A X F (e :: es) (fun o2 rs => ∃ ds : List D, rs = ds.map R.d ∧ pre (.ref C :: ds) ∧ ∀ d, post (.ref C :: ds) d → Q o2 (.d d)) o1 ρ) own ρ)
    (hst : starEach (e :: es) X.env = (false, eval e X.env) :: starEach es X.env := by rfl) (hpl : (backTo pos (starEach es X.env)).any (·.1) = false := by rfl)
    (ht : eval (.Call (.Attribute o m apos) (e :: es) [] pos) X.env = (do
      let ov ← eval o X.env
      standAt apos.atName
      let (f, first) ← holding [ov] (getMethod ov m pl)
      callWith pos f first (backTo pos (starEach (e :: es) X.env)) (backToKw pos (keywordEach [] X.env))) := by rfl) : E X F (.Call (.Attribute o m apos) (e :: es) [] pos) Q own ρ := by
  obtain ⟨mc, p0, g, fd, ps, cr, cm, G, hb⟩ := G
  constructor
  intro ls σ H st sr Qv kk
  refine (ClX.pe_cmeth pe_we cr cm (G.raw hb .nil) hr pass0 pa_wa hst hpl ht).to ?_
  refine h ls σ H st sr _ fun ls1 own1 H1 r u l1 s1 rr ⟨er, ha⟩ => ?_
  subst er
  refine ⟨rr_ref rr, ?_⟩
  refine ha ls1 σ H1 s1 (sr.up l1.pre l1.same) _ fun ls2 own2 H2 rs vs l2 s2 rr2 ⟨ds, er, hp, q⟩ => ?_
  subst er
  rw [List.append_nil]
  exact spF_use s2 (Reps.cons (by simp only [Rep]) (RReps.toD rr2)) hp (fun _ _ _ _ _ l => kk _ _ _ _ _ ((l1.trans l2).trans l)) q _
theorem E.cm0 {pl : Sem Bool} (G : COk X.prog X.w X.K X.mg X.base CX0 C m k (spF X.K pre post)) (hr : Room k X.A)
    (h : E X F o (fun o1 r => r = .d (.ref C) ∧ pre [.ref C] ∧ ∀ d, post [.ref C] d → Q o1 (.d d)) own ρ)
    (ht : eval (.Call (.Attribute o m apos) [] [] pos) X.env = (do
      let ov ← eval o X.env
      standAt apos.atName
      let (f, first) ← holding [ov] (getMethod ov m pl)
      callWith pos f first (backTo pos (starEach [] X.env)) (backToKw pos (keywordEach [] X.env))) := by rfl) : E X F (.Call (.Attribute o m apos) [] [] pos) Q own ρ := by
  obtain ⟨mc, p0, g, fd, ps, cr, cm, G, hb⟩ := G
  constructor
  intro ls σ H st sr Qv kk pins s I
  refine PySem.W.methodCall_KW (pl := pl) (thn (h ls σ H st sr (fun v H1 => v = .ref C ∧ spF X.K pre post [.ref C] H1 Qv E0) (fun ls1 own1 H1 r u l1 s1 rr ⟨er, hp, q⟩ => ?_) pins s I) fun u s1 ⟨x, H1, I1, rx, ex, q⟩ => ?_) ht
  · subst er
    have e := rr_ref rr
    subst e
    exact ⟨rfl, spF_use s1 (Reps.cons (by simp only [Rep]) Reps.nil) hp (fun _ _ _ _ _ l => kk _ _ _ _ _ (l1.trans l)) q _⟩
  · subst ex
    obtain rfl : u = Value.ref C := rx
    refine ClX.getmethcm_ok I1 cr cm fun s2 I2 => ?_
    refine PySem.W.callWith_M0 (K := X.K) ⟨ClX.pin_at I2, I2.kIn⟩ cm.fi ?_
    exact ClX.run_cm (us := []) (vs := []) (G.raw hb .nil) hr pass0 I2 .nil q
theorem E.cmX {pl : Sem Bool} (tk : Tk X F XC) (G : COk X.prog X.w X.K X.mg X.base (L2.CX X.prog X.w) C m k (spX X.K pre post exc)) (hr : Room k X.A)
    (h : E X F o (fun o1 r => r = .d (.ref C) ∧ A X F (e :: es) (fun o2 rs => ∃ ds : List D, rs = ds.map R.d ∧ pre (.ref C :: ds) ∧ (∀ d, post (.ref C :: ds) d → Q o2 (.d d)) ∧ ∀ cls, exc (.ref C :: ds) cls → XC cls o2 ρ) o1 ρ) own ρ)
    (hst : starEach (e :: es) X.env = (false, eval e X.env) :: starEach es X.env := by rfl) (hpl : (backTo pos (starEach es X.env)).any (·.1) = false := by rfl)
    (ht : eval (.Call (.Attribute o m apos) (e :: es) [] pos) X.env = (do
      let ov ← eval o X.env
      standAt apos.atName
      let (f, first) ← holding [ov] (getMethod ov m pl)
      callWith pos f first (backTo pos (starEach (e :: es) X.env)) (backToKw pos (keywordEach [] X.env))) := by rfl) : E X F (.Call (.Attribute o m apos) (e :: es) [] pos) Q own ρ := by
  obtain ⟨mc, p0, g, fd, ps, cr, cm, G, hb⟩ := G
  constructor
  intro ls σ H st sr Qv kk pins s I
  obtain ⟨W0, t, hw⟩ := tk
  refine PySem.W.methodCall_KW (pl := pl) (thn (h ls σ H st sr (fun v H1 => v = .ref C ∧ wa X (e :: es) σ H1 fun vs H2 => spX X.K pre post exc (.ref C :: vs) H2 Qv (WE W0 σ)) (fun ls1 own1 H1 r u l1 s1 rr ⟨er, ha⟩ => ?_) pins s I) fun u s1 ⟨x, H1, I1, rx, ex, q⟩ => ?_) ht
  · subst er
    have e := rr_ref rr
    subst e
    refine ⟨rfl, ?_⟩
    refine ha ls1 σ H1 s1 (sr.up l1.pre l1.same) _ fun ls2 own2 H2 rs vs l2 s2 rr2 ⟨ds, er, hp, q, qe⟩ => ?_
    subst er
    exact spX_use s2 (sr.up (l1.trans l2).pre (l1.trans l2).same) (Reps.cons (by simp only [Rep]) (RReps.toD rr2)) hp (fun _ _ _ _ _ l => kk _ _ _ _ _ ((l1.trans l2).trans l)) q hw qe
  · subst ex
    obtain rfl : u = Value.ref C := rx
    refine ClX.getmethcm_ok I1 cr cm fun s2 I2 => ?_
    refine ClX.callwith_cm I2 (ClX.base_none I1 (Nat.le_refl _)) cm.fi (thn (q pos _ s2 I2) fun us s3 ⟨vs, H2, I3, rv, q2⟩ => ⟨⟨ClX.pin_at I3, I3.kIn⟩, ?_⟩) hst hpl
    have r2 : Vals (V.ref C :: vs) (Value.ref C :: us) := .cons rfl rv
    have hl : (Value.ref C :: us).length = ps.length := by rw [← r2.length]; exact G.len _ _ _ _ q2
    have hbb : BindsTo s3 fd ⟨Value.ref C :: us, []⟩ (ps.zip (Value.ref C :: us)) := by
      have := hb s3 (Value.ref C :: us) I3.kIn (by simpa using hl)
      simpa using this
    have z : wpAny (model X.prog X.w) X.A (PySem.call (.ref s1.heap.objs.size) us) (EP X ((s1.heap.objs.size, PySem.W.methodObj (.ref g) (.ref C)) :: pins) σ Qv) X.xe s3 := ?_
    · exact thn z fun _ _ y => ClX.unpinE y
    refine wpAny_call (PySem.W.method_call (ClX.pin_at I3) (codeAny_mono (G.run X.A X.stack s3 H2 ⟨Value.ref C :: us, []⟩ (Value.ref C :: us) (V.ref C :: vs) Qv (WE W0 σ) hr I3.env0 hbb r2 q2) fun r s' hq => ?_))
    cases r with
    | error e => exact passAt t σ _ _ _ _ _ I3 hq
    | ok fl =>
      cases fl with
      | ret w => exact I3.after hq
      | next => exact False.elim hq
      | brk => exact False.elim hq
      | cont => exact False.elim hq
end
end DL

namespace DL.Own
open PySem PySem.W PySem.Calls PyProof.Rows
section
variable {prog : Program} {w : World} {A : Around} {E : Value → Shared → Prop} {s : Shared} {K : Frag} {x y C D L f g : Addr} {h₀ : Heap} {m : Str → Option Value} {ox oy : Obj} {od oe : Option Obj}
set_option maxHeartbeats 2000000 in
/-- x op y of two classes: the left one does not know the right one, which has the reflected method -/
theorem two_K {op : Operator} {g0 f0 : Addr} {Q : Value → Shared → Prop} (F : Fr h₀ L s.heap m) (X₀ : K.In h₀) (I : InstAt s.heap x ox C od) (J : InstAt s.heap y oy D oe) (hCD : C ≠ D) (hc : selfFirst K C = true) (hd : selfFirst K D = true)
    (hs : findIn K (.ref C) (PySem.dunder op.info.2) = some (some (.ref f))) (hr : findIn K (.ref C) (dunderR op.info.2) = some (some (.ref f0))) (hf : isFn K (.ref f) = true)
    (gs : findIn K (.ref D) (PySem.dunder op.info.2) = some (some (.ref g0))) (gr : findIn K (.ref D) (dunderR op.info.2) = some (some (.ref g))) (hg : isFn K (.ref g) = true) (hsub : subIn K (.ref D) (.ref C) = some false)
    (h : wpAny (model prog w) A (call (.ref f) [.ref x, .ref y]) (fun v s' => v = .notImplemented ∧ K.In s'.heap ∧ (∃ o d, InstAt s'.heap x o C d) ∧ (∃ o d, InstAt s'.heap y o D d) ∧ wpAny (model prog w) A (call (.ref g) [.ref y, .ref x]) (PySem.W.CmpBack Q) E s') E s) :
    wpAny (model prog w) A (binaryOp op (.ref x) (.ref y)) Q E s := by
  have X := X₀.keeps F.keep
  obtain ⟨cd, rest, hcd, hm⟩ := ksp_first hc
  obtain ⟨cd', rest', hcd', hm'⟩ := ksp_first hd
  rcases hi : op.info with ⟨sym, nm'⟩
  rw [hi] at hs hr gs gr
  dsimp only at hs hr gs gr
  have one : wpAny (model prog w) A (tryMethod (.ref x) (PySem.dunder nm') (.ref y)) (fun r s' => r = none ∧ K.In s'.heap ∧ (∃ o d, InstAt s'.heap x o C d) ∧ (∃ o d, InstAt s'.heap y o D d) ∧ wpAny (model prog w) A (call (.ref g) [.ref y, .ref x]) (PySem.W.CmpBack Q) E s') E s := by
    unfold tryMethod
    refine wpAny_bind (special_fn X I hs (beq_iff_eq.mp hf) (wpAny_mono h (fun v s' hv => ?_) fun _ _ e => e))
    obtain ⟨rfl, z⟩ := hv
    exact wpAny_pure ⟨rfl, z⟩
  obtain ⟨hh, gg, d, tt, os⟩ := s
  have L1 : Looks (model prog w) hh (typeOf (.ref x)) (.ref C) := I.type
  have L2 : Looks (model prog w) hh (typeOf (.ref y)) (.ref D) := J.type
  have L3 : Looks (model prog w) hh (fillsNumberSlot (.ref C) nm') true := fills_K X hcd hm hs
  have L4 : Looks (model prog w) hh (fillsNumberSlot (.ref D) nm') true := fills_K X hcd' hm' gs
  have L5 : Looks (model prog w) hh (isSubtype (.ref D) (.ref C)) false := looks_subIn X hsub
  have L6 : Looks (model prog w) hh (numberSlotInPython (.ref C) nm') true := ksp_inPy X hs hr (.inr ⟨_, rfl⟩)
  have L7 : Looks (model prog w) hh (numberSlotInPython (.ref D) nm') true := ksp_inPy X gs gr (.inr ⟨_, rfl⟩)
  have hne : (Value.ref C == Value.ref D) = false := Bool.eq_false_iff.mpr fun q => by cases beq_iff_eq.mp q; exact hCD rfl
  simp only [binaryOp, hi]
  refine wpAny_holding (wpAny_bind ?_)
  unfold binaryOp1
  refine wpAny_bind (L1.at (wpAny_bind (L2.at (wpAny_bind (L3.at ?_)))))
  simp only [hne, Bool.false_eq_true, if_false]
  ksp_lk
  refine wpAny_mono one (fun r s' hr' => ?_) fun _ _ e => e
  obtain ⟨rfl, X', ⟨o1, d1, I'⟩, ⟨o2, d2, J'⟩, hq⟩ := hr'
  obtain ⟨hh', gg', d', tt', os'⟩ := s'
  have M1 : Looks (model prog w) hh' (typeOf (.ref x)) (.ref C) := I'.type
  have M2 : Looks (model prog w) hh' (typeOf (.ref y)) (.ref D) := J'.type
  have two := ksp_try X' J' gr hg hq
  ksp_lk
  simp only [hne, Bool.false_eq_true, if_false, Bool.not_false, Bool.and_self, if_true]
  ksp_lk
  refine wpAny_mono two (fun r s2 hr2 => ?_) fun _ _ e => e
  obtain ⟨v, rfl, hq2⟩ := hr2
  ksp_lk
  exact hq2
end
end DL.Own
namespace DL
open PySem PySem.Spec PyProof.Rows L2
/-! ### defs that hand back NotImplemented -/
def wni (X : Cx) (sts : List Stmt) (σ : L2.St) (H : Hp) (QH : Hp → Prop) : Prop := ∀ pins s, Inv X pins σ H s → wpAny (model X.prog X.w) X.A (execs sts X.env) (fun fl s' => fl = .ret .notImplemented ∧ ∃ σ' H', Inv X pins σ' H' s' ∧ QH H') X.xe s
structure WN (X : Cx) (F : Fm) (sts : List Stmt) (own : List Cell) (ρ : Ro) : Prop where
  run : ∀ ls σ H, St0 X.K F ls own H → SRep X.K ls (F.g ls own H) ρ σ → wni X sts σ H fun H' => ∃ ls' own', St0 X.K F ls' own' H'
section
variable {X : Cx} {F : Fm} {own : List Cell} {ρ : Ro} {st : Stmt} {rest : List Stmt} {p pos : Pos}
theorem WN.cons (h : W1 X F st { nx := fun o r => WN X F rest o r, rt := fun _ _ => False } own ρ) : WN X F (st :: rest) own ρ := by
  constructor
  intro ls σ H s0 sr pins s I
  refine wpAny_execs_cons (thn (h ls σ H s0 sr { nx := fun σ' H' => wni X rest σ' H' fun H2 => ∃ ls' own', St0 X.K F ls' own' H2, rt := fun _ _ => False, bk := fun _ _ => False, ct := fun _ _ => False } ⟨fun ls' own' H' ρ' σ' l s r q => WN.run q ls' σ' H' s r, fun _ _ _ _ _ _ _ _ q => q, fun _ _ _ _ _ _ _ _ q => q, fun _ _ _ _ _ _ _ _ q => q⟩ pins s I) fun f s1 q => ?_)
  cases f with
  | next =>
    obtain ⟨σ', H', I', q⟩ := q
    exact q pins s1 I'
  | ret v => obtain ⟨_, _, _, _, _, q⟩ := q; exact q.elim
  | brk => obtain ⟨_, _, _, q⟩ := q; exact q.elim
  | cont => obtain ⟨_, _, _, q⟩ := q; exact q.elim
theorem WN.ret (hm : X.mg "NotImplemented" = none) (hv : bootBuiltins "NotImplemented" = some .notImplemented := by decide +kernel) (hg : Gl X "NotImplemented" := by rfl) : WN X F [.Return (some (.Name "NotImplemented" p)) pos] own ρ := by
  constructor
  intro ls σ H s0 sr pins s I
  refine wpAny_execs_cons (wpAny_Return_some (ld_blt I hg hm hv ?_ (by decide) (by decide)))
  exact ⟨rfl, σ, H, I, ls, own, s0⟩
end
/-- a def that hands back NotImplemented and changes nothing that stood -/
def FnNi (P : Program) (w : World) (K : PySem.W.Frag) (mg : Str → Option Value) (base : Heap) (k : Nat) (f : Addr) (fd : FuncData) (ps : List Str) (pre : List D → Prop) : Prop :=
  ∀ (A : Around) (outer : List Env) (s : Shared) (H : Hp) (args : Args) (us : List Value) (vs : List V) (S : List Addr) (ds : List D), Room k A → Env0 P w K mg base A outer s H → BindsTo s fd args (ps.zip us) → Vals vs us → (∀ b ∈ S, Hid (H b)) → Reps K (msk S H) ds vs → pre ds →
    codeAny (model P w) A (.call (.ref f) args) (fun r s' => r = .ok (.ret .notImplemented) ∧ CE outer P w H s (fun _ H' => Same H H') .none s') s
section
variable {P : Program} {w : World} {K : PySem.W.Frag} {mg : Str → Option Value} {base : Heap}
theorem ok_NI {x qual : Str} {st : Stmt} {f : Addr} {fd : FuncData} {N ps : List Str} {k : Nat} (F : Fun K x qual st f fd) (S : FnScope N ps (defScope st)) {pre : List D → Prop} (hlen : ∀ ds, pre ds → ds.length = ps.length)
    (body : ∀ (cdv : Value) (A : Around) (outer : List Env) (s : Shared) (H : Hp) (E : XK) (Fr : Fm) (ds : List D), Room k (A.deeper (envOfC qual (defScope st) s.heap.objs.size f cdv)) → Fr.mu = [] → pre ds →
      WN (cx0 P w K mg base N qual (defScope st) f cdv A outer s H E) Fr (defBody st) [] (ent N.length (ds.map R.d))) :
    FnNi P w K mg base (k + 1) f fd ps pre := by
  obtain ⟨oc, od, kV, doc, pm, an, cdv, ct, osl, rfl, lk, hcd⟩ := F.ex
  intro A outer s H args us vs S0 ds hr e0 hb r h1 h2 h3
  have hl : vs.length = ps.length := by rw [← h2.length]; exact hlen ds h3
  have KX : K.In s.heap := e0.mod.kin.keeps fun b o e => (e0.bs b o e).1
  have lim : s.heap.NoLimit := e0.mod.nolimit.keeps fun b o e => (e0.bs b o e).1
  have hkind : ∀ y ∈ ps.zip us, (defScope st).names.lookup y.1 = some .local ∨ ((defScope st).names.lookup y.1 = some .cell ∧ ((cellsFrom (s.heap.objs.size + 1) (defScope st).names []).lookup y.1).isSome = true) := fun ⟨n, v⟩ hy => by
    rcases S.par n (List.of_mem_zip hy).1 with q | q
    · exact .inl q
    · exact .inr ⟨q, PySem.W.cellsFrom_some _ _ _ (.inl q)⟩
  refine codeAny_call_function hr.depth (KX _ _ lk) rfl S.co S.gen rfl (PySem.W.codeRec_of KX hcd) (hb _ _ _ _ ?_)
  refine wpAny_newFunctionEnv_cells S.kind hkind fun env he s1 x => ?_
  subst he
  refine ⟨lim.keeps x.toInCall.keep, codeAny_func ?_⟩
  have I : Inv (cxOf CX0 P w K mg base N qual (defScope st) f cdv A outer s H (fun _ _ _ => False)) [] (L2.start N vs) H s1 := inv_start S hr.hd e0 hl r x
  have st0 : St0 K (Fm.of H S0 []) [] [] H := ⟨rfl, List.nodup_nil, fun l hl => absurd hl (by simp), fun k l c hl => absurd hl (by simp), fun b o _ e => e, fun b h => h, h1, fun l hl => absurd hl (by simp), List.nil_prefix, fun _ _ e => by cases e⟩
  have eg : Fm.g (Fm.of H S0 []) [] [] H = msk S0 H := by show msk (S0 ++ live [] []) H = _; simp [live]
  have sr : SRep K [] (Fm.g (Fm.of H S0 []) [] [] H) (ent N.length (ds.map R.d)) (L2.start N vs) := start_rep N (by rw [eg]; exact RReps.ofD h2)
  refine wpAny_mono ((body cdv A outer s H (fun _ _ _ => False) (Fm.of H S0 []) ds (hr.deeper _) rfl h3).run [] (L2.start N vs) H st0 sr [] s1 (I.wish _)) (fun fl s' hs => ?_) fun e s' hs => hs.elim
  obtain ⟨rfl, σ', H', J, ls', own', s'⟩ := hs
  exact ⟨rfl, V.non, H', J.os, J.bare, J.base, J.hok, rfl, fun b o e => s'.keep b o (by simp) e⟩
end
section
variable {X : Cx} {F : Fm} {own : List Cell} {Q : QE} {k k2 : Nat} {C C2 : Addr} {nm rn : Str} {pre pre2 : List D → Prop} {post2 : List D → D → Prop} {ns ns' : List Str} {ds ds' : List D} {op : Operator}
/-- a method that hands back NotImplemented -/
def NOk (P : Program) (w : World) (K : PySem.W.Frag) (mg : Str → Option Value) (base : Heap) (C : Addr) (x : Str) (k : Nat) (pre : List D → Prop) : Prop :=
  ∃ f fd ps, PySem.W.findIn K (.ref C) x = some (some (.ref f)) ∧ PySem.W.isFn K (.ref f) = true ∧ FnNi P w K mg base k f fd ps pre ∧ Binds K fd ps [] ∧ ∀ ds, pre ds → ds.length = ps.length
theorem O2.dN2 {spr sp0 : Sp} {kr k0 : Nat} {CX CX' : CXT} (hCD : C ≠ C2) (hc : PySem.W.selfFirst X.K C = true) (hc2 : PySem.W.selfFirst X.K C2 = true) (hd : PySem.dunder op.info.2 = nm) (hd2 : dunderR op.info.2 = rn) (G : NOk X.prog X.w X.K X.mg X.base C nm k pre) (G2 : MOk X.prog X.w X.K X.mg X.base CX0 C2 rn k2 (spF X.K pre2 post2))
    (Gr : MOk X.prog X.w X.K X.mg X.base CX C rn kr spr) (G0 : MOk X.prog X.w X.K X.mg X.base CX' C2 nm k0 sp0) (hr : Room k X.A) (hr2 : Room k2 X.A) (hsub : PySem.W.subIn X.K (.ref C2) (.ref C) = some false)
    (hp : pre [.ins C ns ds, .ins C2 ns' ds']) (hp2 : pre2 [.ins C2 ns' ds', .ins C ns ds]) (h : ∀ d, post2 [.ins C2 ns' ds', .ins C ns ds] d → Q own (.d d)) : O2 X F (.bin op) (.d (.ins C ns ds)) (.d (.ins C2 ns' ds')) Q own := by
  subst hd; subst hd2
  obtain ⟨f, fd, ps, a1, a2, G, hb, hlen⟩ := G
  obtain ⟨g, gd, qs, b1, b2, b3, G2, hb2⟩ := G2
  obtain ⟨f0, _, _, c1, _⟩ := Gr
  obtain ⟨g0, _, _, e1, _⟩ := G0
  constructor
  intro ls H u v st rx ry Qv kk pins σ s uu vv I ru rv
  obtain ⟨a, dx, fs, rfl, ha⟩ := ins_at st rx
  obtain ⟨b, dy, gs, rfl, hb'⟩ := ins_at st ry
  cases ru; cases rv
  obtain ⟨mA, J, _⟩ := ins_get I.hok ha
  obtain ⟨mB, J', _⟩ := ins_get I.hok hb'
  obtain ⟨od, J, _⟩ := J.look
  obtain ⟨od', J', _⟩ := J'.look
  obtain ⟨m, hF⟩ := I.fr
  have rr := Reps.cons rx (Reps.cons ry Reps.nil)
  refine Own.two_K hF I.ok.mod.kin J J' hCD hc hc2 a1 c1 a2 e1 b1 b2 hsub ?_
  have hl : [Value.ref a, Value.ref b].length = ps.length := by rw [← hlen _ hp]; rfl
  have hbb : BindsTo s fd ⟨[Value.ref a, Value.ref b], []⟩ (ps.zip [Value.ref a, Value.ref b]) := by
    have := hb s [Value.ref a, Value.ref b] I.kIn (by simpa using hl)
    simpa using this
  refine wpAny_call (codeAny_mono (G X.A X.stack s H ⟨[.ref a, .ref b], []⟩ [.ref a, .ref b] [.ref a, .ref b] _ _ hr I.env0 hbb (.cons rfl (.cons rfl .nil)) st.hid rr hp) fun r s' hq => ?_)
  obtain ⟨rfl, ce⟩ := hq
  obtain ⟨v0, H', I', _, sm⟩ := I.after ce
  have st' := st.grow sm
  have rx' := rx.up List.prefix_rfl (msk_mono (S := F.S0 ++ live ls own) sm)
  have ry' := ry.up List.prefix_rfl (msk_mono (S := F.S0 ++ live ls own) sm)
  obtain ⟨nA, O1, _⟩ := ins_get I'.hok (sm _ _ ha)
  obtain ⟨nB, O2', _⟩ := ins_get I'.hok (sm _ _ hb')
  obtain ⟨o1, O1, _⟩ := O1.look
  obtain ⟨o2, O2', _⟩ := O2'.look
  refine ⟨rfl, I'.kIn, ⟨_, _, O1⟩, ⟨_, _, O2'⟩, ?_⟩
  exact thn (run_at (vs := [.ref b, .ref a]) G2 rfl hr2 hb2 I' (.cons rfl (.cons rfl .nil)) (spF_use st' (Reps.cons ry' (Reps.cons rx' Reps.nil)) hp2 (fun _ _ _ _ _ l => kk _ _ _ _ _ ((Le.grow sm).trans l)) h _)) fun u s q => ep_back q
end
end DL

namespace DL.Own
open PySem PySem.W PySem.Calls PyProof.Rows
section
variable {prog : Program} {w : World} {A : Around} {E : Value → Shared → Prop} {s : Shared} {K : Frag} {x y C D L f g : Addr} {h₀ : Heap} {m : Str → Option Value} {ox oy : Obj} {od oe : Option Obj}
set_option maxHeartbeats 2000000 in
/-- x op y of two classes: the left one knows the right one -/
theorem left_K {op : Operator} {g0 g1 f0 : Addr} {Q : Value → Shared → Prop} (F : Fr h₀ L s.heap m) (X₀ : K.In h₀) (I : InstAt s.heap x ox C od) (J : InstAt s.heap y oy D oe) (hCD : C ≠ D) (hc : selfFirst K C = true) (hd : selfFirst K D = true)
    (hs : findIn K (.ref C) (PySem.dunder op.info.2) = some (some (.ref f))) (hr : findIn K (.ref C) (dunderR op.info.2) = some (some (.ref f0))) (hf : isFn K (.ref f) = true)
    (gs : findIn K (.ref D) (PySem.dunder op.info.2) = some (some (.ref g0))) (gr : findIn K (.ref D) (dunderR op.info.2) = some (some (.ref g1))) (hsub : subIn K (.ref D) (.ref C) = some false)
    (h : wpAny (model prog w) A (call (.ref f) [.ref x, .ref y]) (PySem.W.CmpBack Q) E s) : wpAny (model prog w) A (binaryOp op (.ref x) (.ref y)) Q E s := by
  have X := X₀.keeps F.keep
  obtain ⟨cd, rest, hcd, hm⟩ := ksp_first hc
  obtain ⟨cd', rest', hcd', hm'⟩ := ksp_first hd
  rcases hi : op.info with ⟨sym, nm'⟩
  rw [hi] at hs hr gs gr
  dsimp only at hs hr gs gr
  have one := ksp_try X I hs hf h
  obtain ⟨hh, gg, d, tt, os⟩ := s
  have L1 : Looks (model prog w) hh (typeOf (.ref x)) (.ref C) := I.type
  have L2 : Looks (model prog w) hh (typeOf (.ref y)) (.ref D) := J.type
  have L3 : Looks (model prog w) hh (fillsNumberSlot (.ref C) nm') true := fills_K X hcd hm hs
  have L4 : Looks (model prog w) hh (fillsNumberSlot (.ref D) nm') true := fills_K X hcd' hm' gs
  have L5 : Looks (model prog w) hh (isSubtype (.ref D) (.ref C)) false := looks_subIn X hsub
  have L6 : Looks (model prog w) hh (numberSlotInPython (.ref C) nm') true := ksp_inPy X hs hr (.inr ⟨_, rfl⟩)
  have L7 : Looks (model prog w) hh (numberSlotInPython (.ref D) nm') true := ksp_inPy X gs gr (.inr ⟨_, rfl⟩)
  have hne : (Value.ref C == Value.ref D) = false := Bool.eq_false_iff.mpr fun q => by cases beq_iff_eq.mp q; exact hCD rfl
  simp only [binaryOp, hi]
  refine wpAny_holding (wpAny_bind ?_)
  unfold binaryOp1
  refine wpAny_bind (L1.at (wpAny_bind (L2.at (wpAny_bind (L3.at ?_)))))
  simp only [hne, Bool.false_eq_true, if_false]
  ksp_lk
  refine wpAny_mono one (fun r s' hr' => ?_) fun _ _ e => e
  obtain ⟨v, rfl, hq⟩ := hr'
  ksp_lk
  exact hq
end
end DL.Own
namespace DL
open PySem PySem.Spec PyProof.Rows L2
section
variable {X : Cx} {F : Fm} {own : List Cell} {Q : QE} {k : Nat} {C C2 : Addr} {nm rn : Str} {pre : List D → Prop} {post : List D → D → Prop} {ns ns' : List Str} {ds ds' : List D} {op : Operator}
theorem O2.dL2 {sr s0 s1 : Sp} {kr k0 k1 : Nat} {CXa CXb CXc : CXT} (hCD : C ≠ C2) (hc : PySem.W.selfFirst X.K C = true) (hc2 : PySem.W.selfFirst X.K C2 = true) (hd : PySem.dunder op.info.2 = nm) (hd2 : dunderR op.info.2 = rn) (G : MOk X.prog X.w X.K X.mg X.base CX0 C nm k (spF X.K pre post))
    (Gr : MOk X.prog X.w X.K X.mg X.base CXa C rn kr sr) (G0 : MOk X.prog X.w X.K X.mg X.base CXb C2 nm k0 s0) (G1 : MOk X.prog X.w X.K X.mg X.base CXc C2 rn k1 s1) (hr : Room k X.A) (hsub : PySem.W.subIn X.K (.ref C2) (.ref C) = some false)
    (hp : pre [.ins C ns ds, .ins C2 ns' ds']) (h : ∀ d, post [.ins C ns ds, .ins C2 ns' ds'] d → Q own (.d d)) : O2 X F (.bin op) (.d (.ins C ns ds)) (.d (.ins C2 ns' ds')) Q own := by
  subst hd; subst hd2
  obtain ⟨f, fd, ps, a1, a2, a3, G, hb⟩ := G
  obtain ⟨f0, _, _, c1, _⟩ := Gr
  obtain ⟨g0, _, _, e1, _⟩ := G0
  obtain ⟨g1, _, _, e2, _⟩ := G1
  constructor
  intro ls H u v st rx ry Qv kk pins σ s uu vv I ru rv
  obtain ⟨a, dx, fs, rfl, ha⟩ := ins_at st rx
  obtain ⟨b, dy, gs, rfl, hb'⟩ := ins_at st ry
  cases ru; cases rv
  obtain ⟨mA, J, _⟩ := ins_get I.hok ha
  obtain ⟨mB, J', _⟩ := ins_get I.hok hb'
  obtain ⟨od, J, _⟩ := J.look
  obtain ⟨od', J', _⟩ := J'.look
  obtain ⟨m, hF⟩ := I.fr
  refine Own.left_K hF I.ok.mod.kin J J' hCD hc hc2 a1 c1 a2 e1 e2 hsub ?_
  exact thn (run_at (vs := [.ref a, .ref b]) G rfl hr hb I (.cons rfl (.cons rfl .nil)) (spF_use st (Reps.cons rx (Reps.cons ry Reps.nil)) hp kk h _)) fun u s q => ep_back q
end
end DL

namespace DL
open PySem PySem.Spec PyProof.Rows L2
/-! ### lists that are lent: hidden, and left as they are -/
structure Brw (K : PySem.W.Frag) (F : Fm) (p : Addr) (ds : List D) : Prop where
  hid : p ∈ F.S0
  nmu : p ∉ F.mu
  at_ : ∃ xs, F.H0 p = some (.lst xs) ∧ Reps K F.ga ds xs
/-- what F lends, F' lends -/
def Fle (K : PySem.W.Frag) (F F' : Fm) : Prop := ∀ p ds, Brw K F p ds → Brw K F' p ds
theorem Fle.refl {K : PySem.W.Frag} {F : Fm} : Fle K F F := fun _ _ h => h
theorem Brw.now {K : PySem.W.Frag} {F : Fm} {p : Addr} {ds : List D} {ls : List Addr} {own : List Cell} {H : Hp} (b : Brw K F p ds) (st : St0 K F ls own H) : ∃ xs, H p = some (.lst xs) ∧ Reps K (F.g ls own H) ds xs := by
  obtain ⟨xs, h1, h2⟩ := b.at_
  exact ⟨xs, st.keep p _ b.nmu h1, Reps.mono st.as h2⟩
/-- a list or a tuple of these, or a list that is lent -/
def IsSeq (K : PySem.W.Frag) (F : Fm) (r : R) (ds : List D) : Prop := r = .d (.lst ds) ∨ r = .d (.tup ds) ∨ ∃ p, r = .d (.ref p) ∧ Brw K F p ds
theorem IsSeq.up {K : PySem.W.Frag} {F F' : Fm} {r : R} {ds : List D} (h : IsSeq K F r ds) (e : Fle K F F') : IsSeq K F' r ds := by
  rcases h with h | h | ⟨p, h, b⟩
  · exact .inl h
  · exact .inr (.inl h)
  · exact .inr (.inr ⟨p, h, e p ds b⟩)
/-! ### list comprehensions -/
/-- the block's context -/
abbrev bx (X : Cx) (scope : Scope) (s : Shared) (H : Hp) (C : Addr) (cl : List (Str × Addr)) (fp : List Addr) : Cx := X.blk s H scope (compEnvC scope cl C X.env) fp
/-- an expression, a test within the block, whatever its context -/
def wbe (X : Cx) (scope : Scope) (e : Expr) : TE := fun σ H Q => ∀ s H0 C cl fp, we (bx X scope s H0 C cl fp) e σ H Q
def wbt (X : Cx) (scope : Scope) (e : Expr) : TT := fun σ H Q => ∀ s H0 C cl fp, wt (bx X scope s H0 C cl fp) e σ H Q
section
variable {X : Cx} {scope : Scope}
theorem pe_wbe {e : Expr} (s : Shared) (H : Hp) (C : Addr) (cl : List (Str × Addr)) (fp : List Addr) : PE (bx X scope s H C cl fp) e (wbe X scope e) := ⟨fun pins s1 σ H1 Q I h => h s H C cl fp pins s1 I⟩
theorem pt_wbt {e : Expr} (s : Shared) (H : Hp) (C : Addr) (cl : List (Str × Addr)) (fp : List Addr) : PT (bx X scope s H C cl fp) e (wbt X scope e) := ⟨fun pins s1 σ H1 Q I h => h s H C cl fp pins s1 I⟩
end
def wipeR (ρ : Ro) : List Nat → Ro
  | [] => ρ
  | v :: vs => (wipeR ρ vs).set v none
section
variable {K : PySem.W.Frag} {ls : List Addr} {G : Hp}
theorem SRep.setN : ∀ {ρ : Ro} {σ : L2.St} (i : Nat), SRep K ls G ρ σ → SRep K ls G (ρ.set i none) (σ.set i none)
  | _, _, _, .nil => .nil
  | _, _, 0, .cons _ t => .cons (by trivial) t
  | _, _, i + 1, .cons h t => .cons h (SRep.setN i t)
theorem SRep.wipe {ρ : Ro} {σ : L2.St} (h : SRep K ls G ρ σ) : ∀ vs : List Nat, SRep K ls G (wipeR ρ vs) (L2.wipe σ vs)
  | [] => h
  | v :: vs => SRep.setN v (SRep.wipe h vs)
end
/-- the frame while the list at D grows -/
abbrev fD (F : Fm) (ls : List Addr) (own : List Cell) (H1 : Hp) (D : Addr) : Fm := { H0 := upd H1 D (.lst []), S0 := F.S0 ++ [D], mu := D :: ls, ga := F.g ls own H1 }
/-- .. while one element is made -/
abbrev fE (F : Fm) (ls : List Addr) (own : List Cell) (H : Hp) (D : Addr) : Fm := { H0 := H, S0 := F.S0 ++ [D], mu := ls, ga := msk (F.S0 ++ [D] ++ live ls own) H }
section
variable {K : PySem.W.Frag} {F : Fm} {ls : List Addr} {own : List Cell} {H H1 H2 : Hp} {D : Addr}
theorem fD_start (st : St0 K F ls own H1) (hD : H1 D = none) : St0 K (fD F ls own H1 D) ls own (upd H1 D (.lst [])) := by
  have hDl : ∀ l ∈ ls, l ≠ D := fun l hl z => st.there l hl (by rw [z]; exact hD)
  have hms : msk (F.S0 ++ [D] ++ live ls own) (upd H1 D (.lst [])) = msk (F.S0 ++ [D] ++ live ls own) H1 := msk_upd_in (by simp)
  have sm : Same (F.g ls own H1) (msk (F.S0 ++ [D] ++ live ls own) (upd H1 D (.lst []))) := fun b o e => by
    rw [hms]
    have hb : b ≠ D := fun z => by
      subst z
      unfold Fm.g msk at e
      split at e
      · cases e
      · rw [hD] at e; cases e
    unfold Fm.g msk at e
    split at e
    · cases e
    · rename_i hn
      rw [msk_out (by simp only [List.mem_append, List.mem_singleton] at hn ⊢; rintro ((z | z) | z) <;> first | exact hn (.inl z) | exact hb z | exact hn (.inr z))]
      exact e
  refine ⟨st.len, st.nd, fun l hl => ⟨fun z => ?_, .inr (List.mem_cons_of_mem _ hl)⟩, fun k l c h1 h2 => ?_, fun b o hb e => e, fun b h => h, fun b hb => ?_, fun l hl => ?_, List.nil_prefix, sm⟩
  · rcases List.mem_append.mp z with z | z
    · exact (st.new l hl).1 z
    · exact hDl l hl (List.mem_singleton.mp z)
  · have hl : l ∈ ls := List.mem_of_getElem? h1
    refine (st.at_ k l c h1 h2).up List.prefix_rfl sm fun o e => by rw [upd_ne (hDl l hl)]; exact e
  · rcases List.mem_append.mp hb with z | z
    · have hbD : b ≠ D := fun e => (st.s0 b z).ne (by rw [e]; exact hD)
      rw [upd_ne hbD]; exact st.s0 b z
    · rw [List.mem_singleton.mp z, upd_same]
      exact ⟨_, rfl, fun _ z => by cases z⟩
  · rw [upd_ne (hDl l hl)]; exact st.there l hl
theorem fE_start (st : St0 K (fD F ls own H1 D) ls own H) : St0 K (fE F ls own H D) ls own H :=
  ⟨st.len, st.nd, fun l hl => ⟨(st.new l hl).1, .inr hl⟩, st.at_, fun b o _ e => e, fun b h => h, fun b hb => st.hid b (List.mem_append_left _ hb), st.there, List.nil_prefix, Same.refl _⟩
/-- back, the list longer by one or not -/
theorem fE_end (st : St0 K (fD F ls own H1 D) ls own H) (se : St0 K (fE F ls own H D) ls own H2) {o : HO} (hd : H2 D ≠ none) (ho : ∀ xs, o ≠ .tup xs) : St0 K (fD F ls own H1 D) ls own (upd H2 D o) := by
  have hDl : ∀ l ∈ ls, l ≠ D := fun l hl z => (se.new l hl).1 (by rw [z]; simp)
  have hms : msk (F.S0 ++ [D] ++ live ls own) (upd H2 D o) = msk (F.S0 ++ [D] ++ live ls own) H2 := msk_upd_in (by simp)
  have hno : ∀ {b : Addr}, H2 b ≠ none → upd H2 D o b ≠ none := fun {b} h => by
    by_cases q : b = D
    · rw [q, upd_same]; exact fun z => by cases z
    · rw [upd_ne q]; exact h
  refine ⟨se.len, se.nd, st.new, fun k l c h1 h2 => ?_, fun b u hb e => ?_, fun b h => hno (se.dom b (st.dom b h)), fun b hb => ?_, fun l hl => hno (se.there l hl), st.ap, ?_⟩
  · have hl : l ∈ ls := List.mem_of_getElem? h1
    refine (se.at_ k l c h1 h2).up List.prefix_rfl (fun b u e => ?_) fun u e => by rw [upd_ne (hDl l hl)]; exact e
    show msk (F.S0 ++ [D] ++ live ls own) (upd H2 D o) b = some u
    rw [hms]; exact e
  · have hb' : b ≠ D ∧ b ∉ ls := by simpa only [List.mem_cons, not_or] using hb
    rw [upd_ne hb'.1]
    exact se.keep b u hb'.2 (st.keep b u hb e)
  · by_cases q : b = D
    · rw [q, upd_same]; exact ⟨o, rfl, ho⟩
    · rw [upd_ne q]; exact se.s0 b hb
  · show Same (F.g ls own H1) (msk (F.S0 ++ [D] ++ live ls own) (upd H2 D o))
    rw [hms]
    exact st.as.trans se.as
theorem fD_end (s0 : St0 K F ls own H1) (hD : H1 D = none) (st : St0 K (fD F ls own H1 D) ls own H) : St0 K F ls own H ∧ Le F ls own H1 ls own H ∧ Same (msk (F.S0 ++ [D] ++ live ls own) H) (F.g ls own H) := by
  have up : Same (msk (F.S0 ++ [D] ++ live ls own) H) (F.g ls own H) := msk_le fun b hb => by
    rcases List.mem_append.mp hb with z | z
    · exact List.mem_append_left _ (List.mem_append_left _ z)
    · exact List.mem_append_right _ z
  have hdom : ∀ {b : Addr}, H1 b ≠ none → H b ≠ none := fun {b} h => st.dom b (by
    show upd H1 D (.lst []) b ≠ none
    rw [upd_ne (fun z => h (by rw [z]; exact hD))]; exact h)
  have sm : Same (F.g ls own H1) (F.g ls own H) := st.as.trans up
  refine ⟨⟨s0.len, s0.nd, s0.new, fun k l c h1 h2 => ?_, fun b u hb e => ?_, fun b h => hdom (s0.dom b h), fun b hb => st.s0 b (List.mem_append_left _ hb), fun l hl => hdom (s0.there l hl), s0.ap, s0.as.trans sm⟩, ⟨List.prefix_rfl, sm⟩, up⟩
  · exact (st.at_ k l c h1 h2).up List.prefix_rfl up fun u e => e
  · have h1 := s0.keep b u hb e
    have hbD : b ≠ D := fun z => by rw [z, hD] at h1; cases h1
    refine st.keep b u (fun z => ?_) (by show upd H1 D (.lst []) b = some u; rw [upd_ne hbD]; exact h1)
    rcases List.mem_cons.mp z with z | z
    · exact hbD z
    · rcases (s0.new b z).2 with q | q
      · rw [q] at e; cases e
      · exact hb q
end
theorem fE_lends {K : PySem.W.Frag} {F : Fm} {ls : List Addr} {own : List Cell} {H H1 : Hp} {D : Addr} (s0 : St0 K F ls own H1) (hD : H1 D = none) (st : St0 K (fD F ls own H1 D) ls own H) : Fle K F (fE F ls own H D) := fun p ds b => by
  obtain ⟨xs, h1, h2⟩ := b.at_
  have e1 := s0.keep p _ b.nmu h1
  have hpD : p ≠ D := fun z => by rw [z, hD] at e1; cases e1
  have hpl : p ∉ ls := fun z => (s0.new p z).1 b.hid
  refine ⟨List.mem_append_left _ b.hid, hpl, xs, ?_, Reps.mono (s0.as.trans st.as) h2⟩
  exact st.keep p _ (by simp only [List.mem_cons, not_or]; exact ⟨hpD, hpl⟩) (by show upd H1 D (.lst []) p = _; rw [upd_ne hpD]; exact e1)
/-- the state within: turn i, the list so far -/
def PvC (K : PySem.W.Frag) (F : Fm) (ls : List Addr) (own : List Cell) (H1 : Hp) (D : Addr) (G : Nat → List DL.D → Prop) (i : Nat) (H : Hp) : Prop :=
  ∃ acc vs, H D = some (.lst vs) ∧ Reps K (msk (F.S0 ++ [D] ++ live ls own) H) acc vs ∧ St0 K (fD F ls own H1 D) ls own H ∧ G i acc ∧ acc.length ≤ i
section
variable {X : Cx} {F : Fm} {scope : Scope} {e : Expr} {ifs : List Expr} {G : Nat → List D → Prop} {own : List Cell} {ls : List Addr} {H1 : Hp} {D : Addr}
theorem prefix_same {α : Type} {a b : List α} (p : a <+: b) (h : b.length = a.length) : b = a := (List.IsPrefix.eq_of_length p h.symm).symm
theorem turn_elt {i : Nat} {acc : List DL.D} {vs : List V} {ρ : Ro} {σ : L2.St} {H : Hp} (hz : i < sizeLine) (hd : H D = some (.lst vs)) (hr : Reps X.K (msk (F.S0 ++ [D] ++ live ls own) H) acc vs) (hl : acc.length ≤ i)
    (st : St0 X.K (fD F ls own H1 D) ls own H) {H2 : Hp} (se : St0 X.K (fE F ls own H D) ls own H2) (sr : SRep X.K ls ((fE F ls own H D).g ls own H2) ρ σ) (fl : Fle X.K F (fE F ls own H D))
    (he : ∀ s H0 C cl fp (F' : Fm), Fle X.K F F' → E (bx X scope s H0 C cl fp) F' e (fun o r => o = own ∧ ∃ d, r = .d d ∧ G (i + 1) (acc ++ [d])) own ρ) :
    wbe X scope e σ H2 fun y H4 => ∃ xs, H4 D = some (.lst xs) ∧ xs.length < sizeLine ∧ PvC X.K F ls own H1 D G (i + 1) (upd H4 D (.lst (xs ++ [y]))) := by
  intro s H0 C cl fp
  refine he s H0 C cl fp (fE F ls own H D) fl ls σ H2 se sr _ fun ls3 own3 H4 r y l3 s3 rr ⟨eo, d, er, g⟩ => ?_
  subst eo er
  have els : ls3 = ls := prefix_same l3.pre (by rw [s3.len, se.len])
  subst els
  have hD4 : H4 D = some (.lst vs) := s3.keep D _ (fun z => (s3.new D z).1 (by simp)) hd
  refine ⟨vs, hD4, by rw [← hr.length]; omega, acc ++ [d], vs ++ [y], upd_same, ?_, fE_end st s3 (by rw [hD4]; exact fun z => by cases z) (fun _ z => by cases z), g, by simp; exact hl⟩
  rw [msk_upd_in (by simp)]
  exact Reps.append (Reps.mono s3.as hr) (Reps.cons rr Reps.nil)

theorem pvc_start {ls : List Addr} {own : List Cell} {H1 : Hp} {D : Addr} (st : St0 X.K F ls own H1) (hD : H1 D = none) (g0 : G 0 []) : PvC X.K F ls own H1 D G 0 (upd H1 D (.lst [])) :=
  ⟨[], [], upd_same, Reps.nil, fD_start st hD, g0, Nat.le_refl _⟩
theorem pvc_end {ls0 ls : List Addr} {own0 own : List Cell} {H0 H1 H : Hp} {D : Addr} {n : Nat} {Q : QE} {Qv : VK} (l1 : Le F ls0 own0 H0 ls own H1) (s0 : St0 X.K F ls own H1) (hD : H1 D = none) (h : PvC X.K F ls own H1 D G n H)
    (k : KV' X F ls0 own0 H0 Q Qv) (fin : ∀ acc, G n acc → Q own (.d (.lst acc))) : Qv (.ref D) H := by
  obtain ⟨acc, vs, hd, hr, st, g, _⟩ := h
  obtain ⟨s1, le, sm⟩ := fD_end s0 hD st
  refine k _ _ _ (.d (.lst acc)) _ (l1.trans le) s1 ?_ (fin acc g)
  simp only [RRep, Rep]
  refine ⟨D, vs, rfl, ?_, Reps.mono sm hr⟩
  show msk (F.S0 ++ live ls own) H D = _
  rw [msk_out (fun z => (s0.hid D z).ne hD)]
  exact hd
theorem pvc_see {ls : List Addr} {own : List Cell} {H1 H : Hp} {D : Addr} {i : Nat} (h : PvC X.K F ls own H1 D G i H) : Same (F.g ls own H1) (msk (F.S0 ++ [D] ++ live ls own) H) := by
  obtain ⟨_, _, _, _, st, _, _⟩ := h
  exact st.as
theorem pvc_same {ls : List Addr} {own : List Cell} {H1 H : Hp} {D : Addr} {i : Nat} (h : PvC X.K F ls own H1 D G i H) : Same (F.g ls own H1) H := fun b o e => msk_same _ _ b o (pvc_see h b o e)
/-- one turn, no test -/
theorem turn0 {ls : List Addr} {own : List Cell} {H1 H : Hp} {D : Addr} {i : Nat} {ρ : Ro} {σ : L2.St} (s0 : St0 X.K F ls own H1) (hD : H1 D = none) (hz : i < sizeLine) (p : PvC X.K F ls own H1 D G i H) (sr : SRep X.K ls (msk (F.S0 ++ [D] ++ live ls own) H) ρ σ)
    (he : ∀ acc, G i acc → ∀ s H0 C cl fp (F' : Fm), Fle X.K F F' → E (bx X scope s H0 C cl fp) F' e (fun o r => o = own ∧ ∃ d, r = .d d ∧ G (i + 1) (acc ++ [d])) own ρ) :
    tYes σ H fun b H3 => if b = true then wbe X scope e σ H3 (fun y H4 => ∃ xs, H4 D = some (.lst xs) ∧ xs.length < sizeLine ∧ PvC X.K F ls own H1 D G (i + 1) (upd H4 D (.lst (xs ++ [y])))) else PvC X.K F ls own H1 D G (i + 1) H3 := by
  obtain ⟨acc, vs, hd, hr, st, g, hl⟩ := p
  unfold tYes; dsimp only
  rw [if_pos rfl]
  exact turn_elt hz hd hr hl st (fE_start st) sr (fE_lends s0 hD st) (he acc g)
/-- one turn, a test -/
theorem turn1 {ls : List Addr} {own : List Cell} {H1 H : Hp} {D : Addr} {i : Nat} {ρ : Ro} {σ : L2.St} {t : Expr} (s0 : St0 X.K F ls own H1) (hD : H1 D = none) (hz : i < sizeLine) (p : PvC X.K F ls own H1 D G i H) (sr : SRep X.K ls (msk (F.S0 ++ [D] ++ live ls own) H) ρ σ)
    (he : ∀ acc, G i acc → ∀ s H0 C cl fp (F' : Fm), Fle X.K F F' → T (bx X scope s H0 C cl fp) F' t (fun o b => o = own ∧ if b = true then ∀ s H0 C cl fp (F' : Fm), Fle X.K F F' → E (bx X scope s H0 C cl fp) F' e (fun o r => o = own ∧ ∃ d, r = .d d ∧ G (i + 1) (acc ++ [d])) own ρ else G (i + 1) acc) own ρ) :
    wbt X scope t σ H fun b H3 => if b = true then wbe X scope e σ H3 (fun y H4 => ∃ xs, H4 D = some (.lst xs) ∧ xs.length < sizeLine ∧ PvC X.K F ls own H1 D G (i + 1) (upd H4 D (.lst (xs ++ [y])))) else PvC X.K F ls own H1 D G (i + 1) H3 := by
  obtain ⟨acc, vs, hd, hr, st, g, hl⟩ := p
  intro s H0 C cl fp
  refine he acc g s H0 C cl fp (fE F ls own H D) (fE_lends s0 hD st) ls σ H (fE_start st) sr _ fun ls3 own3 H3 b l3 s3 ⟨eo, q⟩ => ?_
  subst eo
  have els : ls3 = ls := prefix_same l3.pre (by rw [s3.len, st.len])
  subst els
  cases b with
  | true =>
    refine iteT ?_
    exact turn_elt hz hd hr hl st s3 (sr.up List.prefix_rfl l3.same) (fE_lends s0 hD st) fun s H0 C cl fp F' => q s H0 C cl fp F'
  | false =>
    refine iteF ?_
    have hD3 : H3 D = some (.lst vs) := s3.keep D _ (fun z => (s3.new D z).1 (by simp)) hd
    have e3 : upd H3 D (.lst vs) = H3 := by
      funext b
      by_cases q : b = D
      · rw [q, upd_same, hD3]
      · rw [upd_ne q]
    have fin := fE_end (o := .lst vs) st s3 (by rw [hD3]; exact fun z => by cases z) (fun _ z => by cases z)
    rw [e3] at fin
    exact ⟨acc, vs, hD3, Reps.mono s3.as hr, fin, q, Nat.le_succ_of_le hl⟩
theorem wipe_one {σ : L2.St} {i : Nat} {v : V} : L2.wipe ((L2.wipe σ [i]).set i (some v)) [i] = L2.wipe σ [i] := by
  simp only [L2.wipe]
  rw [List.set_set, List.set_set]
theorem set_set2 {α : Type} (l : List α) (i j : Nat) (a b c d : α) : ((((((l.set j c).set i d).set i a).set j b).set j c).set i d) = ((l.set j c).set i d) := by
  refine List.ext_getElem? fun k => ?_
  simp only [List.getElem?_set]
  by_cases h1 : i = k <;> by_cases h2 : j = k <;> simp [h1, h2]
theorem wipe_two {σ : L2.St} {i j : Nat} {v w : V} : L2.wipe (((L2.wipe σ [i, j]).set i (some v)).set j (some w)) [i, j] = L2.wipe σ [i, j] := by
  simp only [L2.wipe]
  exact set_set2 _ _ _ _ _ _ _
end
section
variable {X : Cx} {F : Fm} {scope : Scope} {elt iter t : Expr} {own : List Cell} {ρ : Ro} {Q : QE} {x y : Str} {tp tp2 tp3 pos : Pos} {kk : Nat}
/-- [e for x in a list] -/
theorem E.lcL (i : Nat) (G : Nat → List D → Prop) (hc : X.calm = true) (nd : X.N.Nodup) (ok : BlkOk X.N X.env.scope scope [(x, i)])
    (h : E X F iter (fun o r => ∃ ds, (r = .d (.lst ds) ∨ r = .d (.rol ds)) ∧ ds.length ≤ 100000 ∧ G 0 [] ∧ (∀ j d acc, ds[j]? = some d → G j acc → ∀ s H0 C cl fp (F' : Fm), Fle X.K F F' → E (bx X scope s H0 C cl fp) F' elt (fun o' r => o' = o ∧ ∃ d', r = .d d' ∧ G (j + 1) (acc ++ [d'])) o ((ρ.set i none).set i (some (.d d)))) ∧ ∀ acc, G ds.length acc → Q o (.d (.lst acc))) own ρ)
    (hg : ∀ s H0 C cl fp, PG (bx X scope s H0 C cl fp) (.Name x tp) (gName i) := by intro _ _ _ _ _; exact pg_name (by assumption) rfl (Or.inl rfl)) (hs : ∀ x, foldedSetIterable iter X.env x = pure x := by intro _; rfl) :
    E X F (.ListComp elt [⟨.Name x tp, iter, [], 0⟩] scope pos) Q own ρ := by
  constructor
  intro ls σ H st sr Qv k
  refine (pe_lc hc nd (pi_list pe_we) ok hg (fun _ _ _ _ _ => pts_nil) (fun s H C cl fp => pe_wbe s H C cl fp) hs).to ?_
  refine h ls σ H st sr _ fun ls1 own1 H1 r v l1 s1 rr ⟨ds, er, hz, g0, turn, fin⟩ => ?_
  obtain ⟨p, xs, rfl, hq, hr⟩ : ∃ p xs, v = .ref p ∧ SqL X.K (F.g ls1 own1 H1) p xs ∧ Reps X.K (F.g ls1 own1 H1) ds xs := by
    rcases er with rfl | rfl
    · obtain ⟨p, xs, e, g1, g2⟩ := lst_rr rr
      exact ⟨p, xs, e, .inl (.inl g1), g2⟩
    · simpa only [RRep, Rep] using rr
  refine ⟨p, rfl, ⟨xs, (msk_same _ _).seq hq⟩, fun D hD => ?_⟩
  refine lc_list (xs := xs) (PvC X.K F ls1 own1 H1 D G) (pvc_start s1 hD g0) (fun j H' _ pv => (pvc_same pv).seq hq) (fun j z H' hz' pv => ?_) fun H' pv => pvc_end l1 s1 hD pv k (by rw [← hr.length]; exact fin)
  have hj : j < ds.length := by rw [hr.length]; exact (List.getElem?_eq_some_iff.mp hz').1
  have hd : ds[j]? = some ds[j] := List.getElem?_eq_getElem hj
  obtain ⟨z', e1, e2⟩ := hr.get hd
  rw [hz'] at e1
  cases e1
  refine ⟨wipe_one, ?_⟩
  refine turn0 s1 hD (ρ := (ρ.set i none).set i (some (.d ds[j]))) (Nat.lt_of_lt_of_le hj (Nat.le_trans hz (by decide))) pv ?_ fun acc g s H0 C cl fp F' => turn j _ acc hd g s H0 C cl fp F'
  exact SRep.set (r := .d ds[j]) (show Rep X.K _ ds[j] z from Rep.mono (pvc_see pv) e2) i (SRep.setN i (sr.up l1.pre (l1.same.trans (pvc_see pv))))
theorem E.lcLi (i : Nat) (G : Nat → List D → Prop) (hc : X.calm = true) (nd : X.N.Nodup) (ok : BlkOk X.N X.env.scope scope [(x, i)])
    (h : E X F iter (fun o r => ∃ ds, (r = .d (.lst ds) ∨ r = .d (.rol ds)) ∧ ds.length ≤ 100000 ∧ G 0 [] ∧ (∀ j d acc, ds[j]? = some d → G j acc → ∀ s H0 C cl fp (F' : Fm), Fle X.K F F' → T (bx X scope s H0 C cl fp) F' t (fun o' b => o' = o ∧ if b = true then ∀ s H0 C cl fp (F' : Fm), Fle X.K F F' → E (bx X scope s H0 C cl fp) F' elt (fun o' r => o' = o ∧ ∃ d', r = .d d' ∧ G (j + 1) (acc ++ [d'])) o ((ρ.set i none).set i (some (.d d))) else G (j + 1) acc) o ((ρ.set i none).set i (some (.d d)))) ∧ ∀ acc, G ds.length acc → Q o (.d (.lst acc))) own ρ)
    (hg : ∀ s H0 C cl fp, PG (bx X scope s H0 C cl fp) (.Name x tp) (gName i) := by intro _ _ _ _ _; exact pg_name (by assumption) rfl (Or.inl rfl)) (hs : ∀ x, foldedSetIterable iter X.env x = pure x := by intro _; rfl) :
    E X F (.ListComp elt [⟨.Name x tp, iter, [t], 0⟩] scope pos) Q own ρ := by
  constructor
  intro ls σ H st sr Qv k
  refine (pe_lc hc nd (pi_list pe_we) ok hg (fun s H C cl fp => pts_one (pt_wbt s H C cl fp)) (fun s H C cl fp => pe_wbe s H C cl fp) hs).to ?_
  refine h ls σ H st sr _ fun ls1 own1 H1 r v l1 s1 rr ⟨ds, er, hz, g0, turn, fin⟩ => ?_
  obtain ⟨p, xs, rfl, hq, hr⟩ : ∃ p xs, v = .ref p ∧ SqL X.K (F.g ls1 own1 H1) p xs ∧ Reps X.K (F.g ls1 own1 H1) ds xs := by
    rcases er with rfl | rfl
    · obtain ⟨p, xs, e, g1, g2⟩ := lst_rr rr
      exact ⟨p, xs, e, .inl (.inl g1), g2⟩
    · simpa only [RRep, Rep] using rr
  refine ⟨p, rfl, ⟨xs, (msk_same _ _).seq hq⟩, fun D hD => ?_⟩
  refine lc_list (xs := xs) (PvC X.K F ls1 own1 H1 D G) (pvc_start s1 hD g0) (fun j H' _ pv => (pvc_same pv).seq hq) (fun j z H' hz' pv => ?_) fun H' pv => pvc_end l1 s1 hD pv k (by rw [← hr.length]; exact fin)
  have hj : j < ds.length := by rw [hr.length]; exact (List.getElem?_eq_some_iff.mp hz').1
  have hd : ds[j]? = some ds[j] := List.getElem?_eq_getElem hj
  obtain ⟨z', e1, e2⟩ := hr.get hd
  rw [hz'] at e1
  cases e1
  refine ⟨wipe_one, ?_⟩
  refine turn1 s1 hD (ρ := (ρ.set i none).set i (some (.d ds[j]))) (Nat.lt_of_lt_of_le hj (Nat.le_trans hz (by decide))) pv ?_ fun acc g s H0 C cl fp F' => turn j _ acc hd g s H0 C cl fp F'
  exact SRep.set (r := .d ds[j]) (show Rep X.K _ ds[j] z from Rep.mono (pvc_see pv) e2) i (SRep.setN i (sr.up l1.pre (l1.same.trans (pvc_see pv))))
/-- [e for x in a tuple] -/
theorem E.lcT (i : Nat) (G : Nat → List D → Prop) (hc : X.calm = true) (nd : X.N.Nodup) (ok : BlkOk X.N X.env.scope scope [(x, i)])
    (h : E X F iter (fun o r => ∃ ds, r = .d (.tup ds) ∧ ds.length ≤ 100000 ∧ G 0 [] ∧ (∀ j d acc, ds[j]? = some d → G j acc → ∀ s H0 C cl fp (F' : Fm), Fle X.K F F' → E (bx X scope s H0 C cl fp) F' elt (fun o' r => o' = o ∧ ∃ d', r = .d d' ∧ G (j + 1) (acc ++ [d'])) o ((ρ.set i none).set i (some (.d d)))) ∧ ∀ acc, G ds.length acc → Q o (.d (.lst acc))) own ρ)
    (hg : ∀ s H0 C cl fp, PG (bx X scope s H0 C cl fp) (.Name x tp) (gName i) := by intro _ _ _ _ _; exact pg_name (by assumption) rfl (Or.inl rfl)) (hs : ∀ x, foldedSetIterable iter X.env x = pure x := by intro _; rfl) :
    E X F (.ListComp elt [⟨.Name x tp, iter, [], 0⟩] scope pos) Q own ρ := by
  constructor
  intro ls σ H st sr Qv k
  refine (pe_lc hc nd (pi_tup pe_we) ok hg (fun _ _ _ _ _ => pts_nil) (fun s H C cl fp => pe_wbe s H C cl fp) hs).to ?_
  refine h ls σ H st sr _ fun ls1 own1 H1 r v l1 s1 rr ⟨ds, er, hz, g0, turn, fin⟩ => ?_
  subst er
  obtain ⟨p, xs, rfl, hq, hr⟩ := tup_rr rr
  refine ⟨p, rfl, ⟨xs, Same.seqT (msk_same _ _) hq⟩, fun D hD => ?_⟩
  refine lc_tup (xs := xs) (PvC X.K F ls1 own1 H1 D G) (pvc_start s1 hD g0) (fun j H' _ pv => Same.seqT (pvc_same pv) hq) (fun j z H' hz' pv => ?_) fun H' pv => pvc_end l1 s1 hD pv k (by rw [← hr.length]; exact fin)
  have hj : j < ds.length := by rw [hr.length]; exact (List.getElem?_eq_some_iff.mp hz').1
  have hd : ds[j]? = some ds[j] := List.getElem?_eq_getElem hj
  obtain ⟨z', e1, e2⟩ := hr.get hd
  rw [hz'] at e1
  cases e1
  refine ⟨wipe_one, ?_⟩
  refine turn0 s1 hD (ρ := (ρ.set i none).set i (some (.d ds[j]))) (Nat.lt_of_lt_of_le hj (Nat.le_trans hz (by decide))) pv ?_ fun acc g s H0 C cl fp F' => turn j _ acc hd g s H0 C cl fp F'
  exact SRep.set (r := .d ds[j]) (show Rep X.K _ ds[j] z from Rep.mono (pvc_see pv) e2) i (SRep.setN i (sr.up l1.pre (l1.same.trans (pvc_see pv))))
/-- [e for x in range(n)] -/
theorem E.lcR {a : Expr} {p0 p1 : Pos} (i : Nat) (G : Nat → List D → Prop) (hm : X.mg "range" = none) (hc : X.calm = true) (nd : X.N.Nodup) (ok : BlkOk X.N X.env.scope scope [(x, i)])
    (h : E X F a (fun o r => ∃ m : Int, r = .d (.int m) ∧ m ≤ 100000 ∧ -(2 ^ 62) ≤ m ∧ G 0 [] ∧ (∀ (j : Nat) acc, j < m.toNat → G j acc → ∀ s H0 C cl fp (F' : Fm), Fle X.K F F' → E (bx X scope s H0 C cl fp) F' elt (fun o' r => o' = o ∧ ∃ d', r = .d d' ∧ G (j + 1) (acc ++ [d'])) o ((ρ.set i none).set i (some (.d (.int j))))) ∧ ∀ acc, G m.toNat acc → Q o (.d (.lst acc))) own ρ)
    (hg : ∀ s H0 C cl fp, PG (bx X scope s H0 C cl fp) (.Name x tp) (gName i) := by intro _ _ _ _ _; exact pg_name (by assumption) rfl (Or.inl rfl)) (hgr : Gl X "range" := by rfl) (hst : starEach [a] X.env = [(false, eval a X.env)] := by rfl)
    (hs : ∀ x, foldedSetIterable (.Call (.Name "range" p0) [a] [] p1) X.env x = pure x := by intro _; rfl) :
    E X F (.ListComp elt [⟨.Name x tp, .Call (.Name "range" p0) [a] [] p1, [], 0⟩] scope pos) Q own ρ := by
  constructor
  intro ls σ H st sr Qv k
  refine (pe_lc hc nd (pi_range1 hgr hm (pa_cons pe_we pa_nil hst) hst) ok hg (fun _ _ _ _ _ => pts_nil) (fun s H C cl fp => pe_wbe s H C cl fp) hs).to ?_
  refine h ls σ H st sr _ fun ls1 own1 H1 r v l1 s1 rr ⟨m, er, hz, hlo, g0, turn, fin⟩ => ?_
  subst er
  cases rr_int rr
  refine ⟨m, rfl, hlo, by omega, fun D hD => ?_⟩
  refine lc_range (lo := 0) (n := m.toNat) (PvC X.K F ls1 own1 H1 D G) (pvc_start s1 hD g0) (fun j H' hj pv => ?_) fun H' pv => pvc_end l1 s1 hD pv k fin
  refine ⟨wipe_one, ?_⟩
  rw [Int.zero_add]
  refine turn0 s1 hD (ρ := (ρ.set i none).set i (some (.d (.int j)))) (Nat.lt_of_lt_of_le (m := 100000) (by omega) (by decide)) pv ?_ fun acc g s H0 C cl fp F' => turn j acc hj g s H0 C cl fp F'
  exact SRep.set ir_int i (SRep.setN i (sr.up l1.pre (l1.same.trans (pvc_see pv))))
theorem E.lcRi {a : Expr} {p0 p1 : Pos} (i : Nat) (G : Nat → List D → Prop) (hm : X.mg "range" = none) (hc : X.calm = true) (nd : X.N.Nodup) (ok : BlkOk X.N X.env.scope scope [(x, i)])
    (h : E X F a (fun o r => ∃ m : Int, r = .d (.int m) ∧ m ≤ 100000 ∧ -(2 ^ 62) ≤ m ∧ G 0 [] ∧ (∀ (j : Nat) acc, j < m.toNat → G j acc → ∀ s H0 C cl fp (F' : Fm), Fle X.K F F' → T (bx X scope s H0 C cl fp) F' t (fun o' b => o' = o ∧ if b = true then ∀ s H0 C cl fp (F' : Fm), Fle X.K F F' → E (bx X scope s H0 C cl fp) F' elt (fun o' r => o' = o ∧ ∃ d', r = .d d' ∧ G (j + 1) (acc ++ [d'])) o ((ρ.set i none).set i (some (.d (.int j)))) else G (j + 1) acc) o ((ρ.set i none).set i (some (.d (.int j))))) ∧ ∀ acc, G m.toNat acc → Q o (.d (.lst acc))) own ρ)
    (hg : ∀ s H0 C cl fp, PG (bx X scope s H0 C cl fp) (.Name x tp) (gName i) := by intro _ _ _ _ _; exact pg_name (by assumption) rfl (Or.inl rfl)) (hgr : Gl X "range" := by rfl) (hst : starEach [a] X.env = [(false, eval a X.env)] := by rfl)
    (hs : ∀ x, foldedSetIterable (.Call (.Name "range" p0) [a] [] p1) X.env x = pure x := by intro _; rfl) :
    E X F (.ListComp elt [⟨.Name x tp, .Call (.Name "range" p0) [a] [] p1, [t], 0⟩] scope pos) Q own ρ := by
  constructor
  intro ls σ H st sr Qv k
  refine (pe_lc hc nd (pi_range1 hgr hm (pa_cons pe_we pa_nil hst) hst) ok hg (fun s H C cl fp => pts_one (pt_wbt s H C cl fp)) (fun s H C cl fp => pe_wbe s H C cl fp) hs).to ?_
  refine h ls σ H st sr _ fun ls1 own1 H1 r v l1 s1 rr ⟨m, er, hz, hlo, g0, turn, fin⟩ => ?_
  subst er
  cases rr_int rr
  refine ⟨m, rfl, hlo, by omega, fun D hD => ?_⟩
  refine lc_range (lo := 0) (n := m.toNat) (PvC X.K F ls1 own1 H1 D G) (pvc_start s1 hD g0) (fun j H' hj pv => ?_) fun H' pv => pvc_end l1 s1 hD pv k fin
  refine ⟨wipe_one, ?_⟩
  rw [Int.zero_add]
  refine turn1 s1 hD (ρ := (ρ.set i none).set i (some (.d (.int j)))) (Nat.lt_of_lt_of_le (m := 100000) (by omega) (by decide)) pv ?_ fun acc g s H0 C cl fp F' => turn j acc hj g s H0 C cl fp F'
  exact SRep.set ir_int i (SRep.setN i (sr.up l1.pre (l1.same.trans (pvc_see pv))))
end
end DL

namespace DL
open PySem PySem.Spec PyProof.Rows L2
/-! ### reading lists that are lent, sequences of any kind -/
section
variable {X : Cx} {F : Fm} {own : List Cell} {ρ : Ro} {Q : QE} {QT : QT} {i : Int} {p : Addr} {ds : List D} {d : D} {r : R}
theorem Cl.lenB (b : Brw X.K F p ds) (h : Q own (.d (.int ds.length))) : Cl X F (.builtin "len") [.d (.ref p)] Q own := by
  constructor
  intro ls H vs st rr Qv k
  obtain ⟨v, rfl, rv⟩ := rrs1 rr
  cases rr_ref rv
  obtain ⟨xs, h1, h2⟩ := b.now st
  rw [h2.length] at h
  exact (call_len_seq).to ⟨p, xs, rfl, .inl (.inl (.inl h1)), k _ _ _ (.d (.int _)) _ Le.refl st ir_int h⟩
theorem Cl.lenQ (q : IsSeq X.K F r ds) (h : Q own (.d (.int ds.length))) : Cl X F (.builtin "len") [r] Q own := by
  rcases q with rfl | rfl | ⟨p, rfl, b⟩
  · exact Cl.lenL h
  · exact Cl.lenT h
  · exact Cl.lenB b h
theorem Cl.listB (b : Brw X.K F p ds) (h : Q own (.d (.lst ds))) : Cl X F (.type "list") [.d (.ref p)] Q own := by
  constructor
  intro ls H vs st rr Qv k
  obtain ⟨v, rfl, rv⟩ := rrs1 rr
  cases rr_ref rv
  obtain ⟨xs, h1, h2⟩ := b.now st
  refine (call_list_of).to ⟨p, xs, rfl, .inl (.inl (.inl h1)), fun l hl => ?_⟩
  refine k _ _ _ (.d (.lst ds)) _ (Le.grow (same_new hl)) (st.grow (same_new hl)) ?_ h
  simp only [RRep, Rep]
  exact ⟨l, xs, rfl, st.seen hl, Reps.mono (msk_mono (same_new hl)) h2⟩
theorem Cl.tupleB (b : Brw X.K F p ds) (h : Q own (.d (.tup ds))) : Cl X F (.type "tuple") [.d (.ref p)] Q own := by
  constructor
  intro ls H vs st rr Qv k
  obtain ⟨v, rfl, rv⟩ := rrs1 rr
  cases rr_ref rv
  obtain ⟨xs, h1, h2⟩ := b.now st
  refine (call_tuple_of).to ⟨p, xs, rfl, .inl ⟨.inl (.inl h1), fun l hl => ?_⟩⟩
  refine k _ _ _ (.d (.tup ds)) _ (Le.grow (same_new hl)) (st.grow (same_new hl)) ?_ h
  simp only [RRep, Rep]
  exact ⟨l, xs, rfl, st.seen hl, Reps.mono (msk_mono (same_new hl)) h2⟩
theorem Cl.listQ (q : IsSeq X.K F r ds) (h : Q own (.d (.lst ds))) : Cl X F (.type "list") [r] Q own := by
  rcases q with rfl | rfl | ⟨p, rfl, b⟩
  · exact Cl.listL h
  · exact Cl.listT h
  · exact Cl.listB b h
theorem Cl.tupleQ (q : IsSeq X.K F r ds) (h : Q own (.d (.tup ds))) : Cl X F (.type "tuple") [r] Q own := by
  rcases q with rfl | rfl | ⟨p, rfl, b⟩
  · exact Cl.tupleL h
  · exact Cl.tupleT h
  · exact Cl.tupleB b h
theorem Ix.brw (b : Brw X.K F p ds) (hi : atI ds i = some d) (h : Q own (.d d)) : Ix X F (.d (.ref p)) (.d (.int i)) Q own := by
  constructor
  intro ls H u v st ru rv Qv k
  cases rr_ref ru
  cases rr_int rv
  obtain ⟨xs, h1, h2⟩ := b.now st
  obtain ⟨x, e1, e2⟩ := atI_rep h2 hi
  exact .inl ⟨p, xs, i, x, rfl, rfl, .inl (.inl h1), e1, k _ _ _ (.d d) _ Le.refl st e2 h⟩
theorem Ix.seq (q : IsSeq X.K F r ds) (hi : atI ds i = some d) (h : Q own (.d d)) : Ix X F r (.d (.int i)) Q own := by
  rcases q with rfl | rfl | ⟨p, rfl, b⟩
  · exact Ix.lst hi h
  · exact Ix.tup hi h
  · exact Ix.brw b hi h
end
section
variable {X : Cx} {F : Fm} {tg iter : Expr} {body : List Stmt} {own : List Cell} {ρ : Ro} {P : Po} {pos : Pos} {p : Addr} {ds : List D} {r : R}
/-- for x in a list that is lent -/
theorem W1.forB (I : Nat → List Cell → Ro → Prop) (b : Brw X.K F p ds) (hc : X.calm = true) (hp : PassesOwn (model X.prog X.w) X.A X.env X.xe)
    (h : E X F iter (fun o r => r = .d (.ref p) ∧ I 0 o ρ ∧ (∀ i d o' ρ', ds[i]? = some d → I i o' ρ' → Tg X F tg (.d d) (fun o2 ρ2 => W X F body { nx := I (i + 1), rt := P.rt, bk := P.nx, ct := I (i + 1) } o2 ρ2) o' ρ') ∧ ∀ o' ρ', I ds.length o' ρ' → P.nx o' ρ') own ρ)
    (hs : ∀ x, foldedSetIterable iter X.env x = pure x := by intro _; rfl) : W1 X F (.For tg iter body [] pos) P own ρ := by
  constructor
  intro ls σ H s0 sr De k
  refine (ps_for hp hc (pi_list pe_we) pg_w pss_ws hs).to ?_
  refine h ls σ H s0 sr _ fun ls1 own1 H1 r v l1 s1 rr ⟨er, i0, turn, fin⟩ => ?_
  subst er
  cases rr_ref rr
  obtain ⟨xs, hx0, hf⟩ := b.at_
  have hlen : xs.length = ds.length := hf.length.symm
  have now : ∀ {ls2 own2 H2}, St0 X.K F ls2 own2 H2 → H2 p = some (.lst xs) := fun s2 => s2.keep p _ b.nmu hx0
  refine ⟨p, rfl, ⟨xs, .inl (.inl (now s1))⟩, ?_⟩
  refine for_gen (n := ds.length) (Pv X F ls1 own1 H1 I) ⟨ls1, own1, ρ, Le.refl, s1, sr.up l1.pre l1.same, i0⟩ (fun i σ' H' ⟨_, _, _, _, s2, _⟩ => ⟨xs, .inl (.inl (now s2)), hlen⟩) ?_ ?_
  · rintro i x σ' H' _ hi _ _ hall ⟨ls2, own2, ρ2, l2, s2, sr2, ii⟩
    have hx := hall xs (.inl (.inl (now s2)))
    have hdi : ds[i]? = some ds[i] := List.getElem?_eq_getElem hi
    obtain ⟨y, e1, e2⟩ := hf.get hdi
    rw [hx] at e1
    cases e1
    refine turn i _ own2 ρ2 hdi ii ls2 σ' H' x s2 sr2 (Rep.mono s2.as e2) _ fun ls3 own3 H3 ρ3 σ3 l3 s3 sr3 q => ?_
    exact q ls3 σ3 H3 s3 sr3 _ ⟨fun _ _ _ _ _ l s r q => ⟨_, _, _, (l2.trans l3).trans l, s, r, q⟩, fun _ _ _ _ _ l s r q => k.rt _ _ _ _ _ (l1.trans ((l2.trans l3).trans l)) s r q, fun _ _ _ _ _ l s r q => k.nx _ _ _ _ _ (l1.trans ((l2.trans l3).trans l)) s r q, fun _ _ _ _ _ l s r q => ⟨_, _, _, (l2.trans l3).trans l, s, r, q⟩⟩
  · rintro σ' H' ⟨ls2, own2, ρ2, l2, s2, sr2, ii⟩
    exact k.nx _ _ _ _ _ (l1.trans l2) s2 sr2 (fin _ _ ii)
theorem W1.forQ (I : Nat → List Cell → Ro → Prop) (q : IsSeq X.K F r ds) (hc : X.calm = true) (hp : PassesOwn (model X.prog X.w) X.A X.env X.xe)
    (h : E X F iter (fun o r' => r' = r ∧ I 0 o ρ ∧ (∀ i d o' ρ', ds[i]? = some d → I i o' ρ' → Tg X F tg (.d d) (fun o2 ρ2 => W X F body { nx := I (i + 1), rt := P.rt, bk := P.nx, ct := I (i + 1) } o2 ρ2) o' ρ') ∧ ∀ o' ρ', I ds.length o' ρ' → P.nx o' ρ') own ρ)
    (hs : ∀ x, foldedSetIterable iter X.env x = pure x := by intro _; rfl) : W1 X F (.For tg iter body [] pos) P own ρ := by
  rcases q with rfl | rfl | ⟨p, rfl, b⟩
  · exact W1.forL I hc hp (h.mono fun o r' ⟨e, i0, t, f⟩ => ⟨ds, .inl e, i0, t, f⟩) hs
  · exact W1.forT I hc hp (h.mono fun o r' ⟨e, i0, t, f⟩ => ⟨ds, e, i0, t, f⟩) hs
  · exact W1.forB I b hc hp h hs
end
section
variable {X : Cx} {F : Fm} {scope : Scope} {elt iter t : Expr} {own : List Cell} {ρ : Ro} {Q : QE} {x y : Str} {tp tp2 tp3 pos : Pos} {kk : Nat} {p : Addr} {ds : List D} {r : R}
theorem E.lcB (i : Nat) (G : Nat → List D → Prop) (b : Brw X.K F p ds) (hc : X.calm = true) (nd : X.N.Nodup) (ok : BlkOk X.N X.env.scope scope [(x, i)])
    (h : E X F iter (fun o r => r = .d (.ref p) ∧ ds.length ≤ 100000 ∧ G 0 [] ∧ (∀ j d acc, ds[j]? = some d → G j acc → ∀ s H0 C cl fp (F' : Fm), Fle X.K F F' → E (bx X scope s H0 C cl fp) F' elt (fun o' r => o' = o ∧ ∃ d', r = .d d' ∧ G (j + 1) (acc ++ [d'])) o ((ρ.set i none).set i (some (.d d)))) ∧ ∀ acc, G ds.length acc → Q o (.d (.lst acc))) own ρ)
    (hg : ∀ s H0 C cl fp, PG (bx X scope s H0 C cl fp) (.Name x tp) (gName i) := by intro _ _ _ _ _; exact pg_name (by assumption) rfl (Or.inl rfl)) (hs : ∀ x, foldedSetIterable iter X.env x = pure x := by intro _; rfl) :
    E X F (.ListComp elt [⟨.Name x tp, iter, [], 0⟩] scope pos) Q own ρ := by
  constructor
  intro ls σ H st sr Qv k
  refine (pe_lc hc nd (pi_list pe_we) ok hg (fun _ _ _ _ _ => pts_nil) (fun s H C cl fp => pe_wbe s H C cl fp) hs).to ?_
  refine h ls σ H st sr _ fun ls1 own1 H1 r v l1 s1 rr ⟨er, hz, g0, turn, fin⟩ => ?_
  subst er
  cases rr_ref rr
  obtain ⟨xs, hx1, hr⟩ := b.now s1
  refine ⟨p, rfl, ⟨xs, .inl (.inl hx1)⟩, fun D hD => ?_⟩
  have hpD : p ≠ D := fun z => by rw [z, hD] at hx1; cases hx1
  have hpl : p ∉ ls1 := fun z => (s1.new p z).1 b.hid
  have now : ∀ {j H'}, PvC X.K F ls1 own1 H1 D G j H' → H' p = some (.lst xs) := fun {j H'} pv => by
    obtain ⟨_, _, _, _, s2, _, _⟩ := pv
    exact s2.keep p _ (by simp only [List.mem_cons, not_or]; exact ⟨hpD, hpl⟩) (by show upd H1 D (.lst []) p = _; rw [upd_ne hpD]; exact hx1)
  refine lc_list (K := X.K) (xs := xs) (PvC X.K F ls1 own1 H1 D G) (pvc_start s1 hD g0) (fun j H' _ pv => .inl (.inl (now pv))) (fun j z H' hz' pv => ?_) fun H' pv => pvc_end l1 s1 hD pv k (by rw [← hr.length]; exact fin)
  have hj : j < ds.length := by rw [hr.length]; exact (List.getElem?_eq_some_iff.mp hz').1
  have hd : ds[j]? = some ds[j] := List.getElem?_eq_getElem hj
  obtain ⟨z', e1, e2⟩ := hr.get hd
  rw [hz'] at e1
  cases e1
  refine ⟨wipe_one, ?_⟩
  refine turn0 s1 hD (ρ := (ρ.set i none).set i (some (.d ds[j]))) (Nat.lt_of_lt_of_le hj (Nat.le_trans hz (by decide))) pv ?_ fun acc g s H0 C cl fp F' => turn j _ acc hd g s H0 C cl fp F'
  exact SRep.set (r := .d ds[j]) (show Rep X.K _ ds[j] z from Rep.mono (pvc_see pv) e2) i (SRep.setN i (sr.up l1.pre (l1.same.trans (pvc_see pv))))
theorem E.lcQ (i : Nat) (G : Nat → List D → Prop) (q : IsSeq X.K F r ds) (hc : X.calm = true) (nd : X.N.Nodup) (ok : BlkOk X.N X.env.scope scope [(x, i)])
    (h : E X F iter (fun o r' => r' = r ∧ ds.length ≤ 100000 ∧ G 0 [] ∧ (∀ j d acc, ds[j]? = some d → G j acc → ∀ s H0 C cl fp (F' : Fm), Fle X.K F F' → E (bx X scope s H0 C cl fp) F' elt (fun o' r => o' = o ∧ ∃ d', r = .d d' ∧ G (j + 1) (acc ++ [d'])) o ((ρ.set i none).set i (some (.d d)))) ∧ ∀ acc, G ds.length acc → Q o (.d (.lst acc))) own ρ)
    (hg : ∀ s H0 C cl fp, PG (bx X scope s H0 C cl fp) (.Name x tp) (gName i) := by intro _ _ _ _ _; exact pg_name (by assumption) rfl (Or.inl rfl)) (hs : ∀ x, foldedSetIterable iter X.env x = pure x := by intro _; rfl) :
    E X F (.ListComp elt [⟨.Name x tp, iter, [], 0⟩] scope pos) Q own ρ := by
  rcases q with rfl | rfl | ⟨p, rfl, b⟩
  · exact E.lcL i G hc nd ok (h.mono fun o r' ⟨e, z, g, t, f⟩ => ⟨ds, .inl e, z, g, t, f⟩) hg hs
  · exact E.lcT i G hc nd ok (h.mono fun o r' ⟨e, z, g, t, f⟩ => ⟨ds, e, z, g, t, f⟩) hg hs
  · exact E.lcB i G b hc nd ok h hg hs
end
/-! ### a def that may be lent lists -/
def spQ (K : PySem.W.Frag) (pre : List (Addr × List D) → List D → Prop) (post : List D → D → Prop) : Sp := fun vs H Q _ => ∃ (S : List Addr) (bs : List (Addr × List D)) (ds : List D), (∀ b ∈ S, Hid (H b)) ∧ (∀ x ∈ bs, x.1 ∈ S ∧ ∃ xs, H x.1 = some (.lst xs) ∧ Reps K (msk S H) x.2 xs) ∧ Reps K (msk S H) ds vs ∧ pre bs ds ∧
  ∀ H' d v, Same H H' → Rep K (msk S H') d v → post ds d → Q v H'
/-- .. that hands back a new list -/
def spQN (K : PySem.W.Frag) (pre : List (Addr × List D) → List D → Prop) (I : List D → List D → Prop) : Sp := fun vs H Q _ => ∃ (S : List Addr) (bs : List (Addr × List D)) (ds : List D), (∀ b ∈ S, Hid (H b)) ∧ (∀ x ∈ bs, x.1 ∈ S ∧ ∃ xs, H x.1 = some (.lst xs) ∧ Reps K (msk S H) x.2 xs) ∧ Reps K (msk S H) ds vs ∧ pre bs ds ∧
  ∀ p H' xs ps, Same H H' → H p = none → H' p = some (.lst xs) → Reps K (msk (S ++ [p]) H') ps xs → I ds ps → Q (.ref p) H'
/-- what is lent at a call's entry -/
abbrev fQ (H : Hp) (S : List Addr) : Fm := { H0 := H, S0 := S, mu := [], ga := msk S H }
theorem lent_at {K : PySem.W.Frag} {H : Hp} {S : List Addr} {bs : List (Addr × List D)} (h : ∀ x ∈ bs, x.1 ∈ S ∧ ∃ xs, H x.1 = some (.lst xs) ∧ Reps K (msk S H) x.2 xs) : ∀ x ∈ bs, Brw K (fQ H S) x.1 x.2 := fun x hx => ⟨(h x hx).1, by simp, (h x hx).2⟩
theorem st0_Q {K : PySem.W.Frag} {H : Hp} {S : List Addr} (h1 : ∀ b ∈ S, Hid (H b)) : St0 K (fQ H S) [] [] H ∧ Fm.g (fQ H S) [] [] H = msk S H := by
  have eg : Fm.g (fQ H S) [] [] H = msk S H := by show msk (S ++ live [] []) H = _; simp [live]
  exact ⟨⟨rfl, List.nodup_nil, fun l hl => absurd hl (by simp), fun k l c hl => absurd hl (by simp), fun b o _ e => e, fun b h => h, h1, fun l hl => absurd hl (by simp), List.nil_prefix, by rw [eg]; exact Same.refl _⟩, eg⟩
/-- an argument that is a list, a tuple, or a lent list -/
def IsArg (bs : List (Addr × List D)) (d : D) (ds : List D) : Prop := d = .lst ds ∨ d = .tup ds ∨ ∃ p, d = .ref p ∧ (p, ds) ∈ bs
theorem IsArg.seq {K : PySem.W.Frag} {F : Fm} {bs : List (Addr × List D)} {d : D} {ds : List D} (h : IsArg bs d ds) (hb : ∀ x ∈ bs, Brw K F x.1 x.2) : IsSeq K F (.d d) ds := by
  rcases h with rfl | rfl | ⟨p, rfl, hp⟩
  · exact .inl rfl
  · exact .inr (.inl rfl)
  · exact .inr (.inr ⟨p, rfl, hb _ hp⟩)
section
variable {P : Program} {w : World} {K : PySem.W.Frag} {mg : Str → Option Value} {base : Heap}
theorem ok_Q {x qual : Str} {st : Stmt} {f : Addr} {fd : FuncData} {N ps : List Str} {k : Nat} (F : Fun K x qual st f fd) (S : FnScope N ps (defScope st)) {pre : List (Addr × List D) → List D → Prop} {post : List D → D → Prop} (hlen : ∀ bs ds, pre bs ds → ds.length = ps.length)
    (body : ∀ (cdv : Value) (A : Around) (outer : List Env) (s : Shared) (H : Hp) (E : XK) (Fr : Fm) (bs : List (Addr × List D)) (ds : List D), Room k (A.deeper (envOfC qual (defScope st) s.heap.objs.size f cdv)) → Fr.mu = [] → (∀ x ∈ bs, Brw K Fr x.1 x.2) → pre bs ds →
      W (cx0 P w K mg base N qual (defScope st) f cdv A outer s H E) Fr (defBody st) { nx := fun _ _ => post ds .non, rt := fun _ r => ∃ d, r = .d d ∧ post ds d } [] (ent N.length (ds.map R.d))) :
    FnOk P w K mg base CX0 (k + 1) f fd ps (spQ K pre post) := by
  refine F.ok S (fun vs H Q E h => ?_) (fun cdv A outer s H vs Q E hr h => ?_)
  · obtain ⟨_, bs, ds, _, _, h2, h3, _⟩ := h
    rw [← h2.length]; exact hlen bs ds h3
  · obtain ⟨S0, bs, ds, h1, hbs, h2, h3, kk⟩ := h
    refine ⟨_, pss_ws, ?_⟩
    obtain ⟨st0, eg⟩ := st0_Q (K := K) h1
    have sr : SRep K [] (Fm.g (fQ H S0) [] [] H) (ent N.length (ds.map R.d)) (L2.start N vs) := start_rep N (by rw [eg]; exact RReps.ofD h2)
    have fin : ∀ {ls' : List Addr} {own' : List Cell} {H' : Hp} {d : D} {v : V}, St0 K (fQ H S0) ls' own' H' → Rep K (Fm.g (fQ H S0) ls' own' H') d v → post ds d → Q v H' := fun s' r q =>
      kk _ _ _ (fun b o e => s'.keep b o (by simp) e) (Rep.mono (msk_le fun b hb => List.mem_append_left _ hb) r) q
    refine body cdv A outer s H E (fQ H S0) bs ds hr rfl (lent_at hbs) h3 [] (L2.start N vs) H st0 sr _ ⟨?_, ?_, ?_, ?_⟩
    · intro ls' own' H' ρ σ _ s' _ q
      exact fin (d := .non) s' (by simp only [Rep]) q
    · rintro ls' own' H' r v _ s' rv ⟨d, rfl, q⟩
      exact fin s' rv q
    · intro _ _ _ _ _ _ _ _ q; exact q
    · intro _ _ _ _ _ _ _ _ q; exact q
theorem ok_QN {x qual : Str} {st : Stmt} {f : Addr} {fd : FuncData} {N ps : List Str} {k : Nat} (F : Fun K x qual st f fd) (S : FnScope N ps (defScope st)) {pre : List (Addr × List D) → List D → Prop} {I : List D → List D → Prop} (hlen : ∀ bs ds, pre bs ds → ds.length = ps.length)
    (body : ∀ (cdv : Value) (A : Around) (outer : List Env) (s : Shared) (H : Hp) (E : XK) (Fr : Fm) (bs : List (Addr × List D)) (ds : List D), Room k (A.deeper (envOfC qual (defScope st) s.heap.objs.size f cdv)) → Fr.mu = [] → (∀ x ∈ bs, Brw K Fr x.1 x.2) → pre bs ds →
      W (cx0 P w K mg base N qual (defScope st) f cdv A outer s H E) Fr (defBody st) { nx := fun _ _ => False, rt := fun own r => ∃ n qs, r = .c n ∧ own[n]? = some (.lst (qs.map R.d)) ∧ I ds qs } [] (ent N.length (ds.map R.d))) :
    FnOk P w K mg base CX0 (k + 1) f fd ps (spQN K pre I) := by
  refine F.ok S (fun vs H Q E h => ?_) (fun cdv A outer s H vs Q E hr h => ?_)
  · obtain ⟨_, bs, ds, _, _, h2, h3, _⟩ := h
    rw [← h2.length]; exact hlen bs ds h3
  · obtain ⟨S0, bs, ds, h1, hbs, h2, h3, kk⟩ := h
    refine ⟨_, pss_ws, ?_⟩
    obtain ⟨st0, eg⟩ := st0_Q (K := K) h1
    have sr : SRep K [] (Fm.g (fQ H S0) [] [] H) (ent N.length (ds.map R.d)) (L2.start N vs) := start_rep N (by rw [eg]; exact RReps.ofD h2)
    refine body cdv A outer s H E (fQ H S0) bs ds hr rfl (lent_at hbs) h3 [] (L2.start N vs) H st0 sr _ ⟨?_, ?_, ?_, ?_⟩
    · intro _ _ _ _ _ _ _ _ q; exact q.elim
    · rintro ls' own' H' r v _ s' rv ⟨n, qs, rfl, hc, q⟩
      obtain ⟨l, hl, rfl⟩ := rv
      obtain ⟨xs, g1, g2⟩ := s'.at_ n l _ hl hc
      have hn : H l = none := by
        rcases (s'.new l (List.mem_of_getElem? hl)).2 with h | h
        · exact h
        · exact absurd h (by simp)
      refine kk l H' xs qs (fun b o e => s'.keep b o (by simp) e) hn g1 (Reps.mono (msk_le fun b hb => ?_) (RReps.toD g2)) q
      rcases List.mem_append.mp hb with h | h
      · exact List.mem_append_left _ h
      · rw [List.mem_singleton.mp h]; exact List.mem_append_right _ (live_get hl hc fun z => by cases z)
    · intro _ _ _ _ _ _ _ _ q; exact q
    · intro _ _ _ _ _ _ _ _ q; exact q
end
/-! ### handing over: cells are lent -/
/-- the arguments: data, or one of the own lists, that is lent -/
inductive Lend (own : List Cell) (ad : Nat → Addr) : List R → List D → List (Addr × List D) → Prop where
  | nil : Lend own ad [] [] []
  | dat {d rs ds bs} (t : Lend own ad rs ds bs) : Lend own ad (.d d :: rs) (d :: ds) bs
  | cel {n qs rs ds bs} (hc : own[n]? = some (.lst (qs.map R.d))) (t : Lend own ad rs ds bs) : Lend own ad (.c n :: rs) (.ref (ad n) :: ds) ((ad n, qs) :: bs)
theorem Lend.use {K : PySem.W.Frag} {F : Fm} {ls : List Addr} {own : List Cell} {H : Hp} {ad : Nat → Addr} (st : St0 K F ls own H) (ha : ∀ n l, ls[n]? = some l → ad n = l) : ∀ {rs ds bs vs}, Lend own ad rs ds bs → RReps K ls (F.g ls own H) rs vs →
    Reps K (msk (F.S0 ++ live ls own) H) ds vs ∧ ∀ x ∈ bs, x.1 ∈ F.S0 ++ live ls own ∧ ∃ xs, H x.1 = some (.lst xs) ∧ Reps K (msk (F.S0 ++ live ls own) H) x.2 xs
  | _, _, _, _, .nil, .nil => ⟨Reps.nil, fun x hx => by cases hx⟩
  | _, _, _, _, .dat t, .cons r rr => by
    obtain ⟨g1, g2⟩ := Lend.use st ha t rr
    exact ⟨Reps.cons r g1, g2⟩
  | _, _, _, _, .cel (n := n) hc t, .cons r rr => by
    obtain ⟨g1, g2⟩ := Lend.use st ha t rr
    obtain ⟨l, hl, rfl⟩ := r
    have e := ha n l hl
    obtain ⟨xs, h1, h2⟩ := st.at_ n l _ hl hc
    refine ⟨Reps.cons (by simp only [Rep]; rw [e]) g1, fun x hx => ?_⟩
    rcases List.mem_cons.mp hx with rfl | hx
    · refine ⟨List.mem_append_right _ ?_, xs, ?_, RReps.toD h2⟩
      · show ad n ∈ _; rw [e]; exact live_get hl hc fun z => by cases z
      · show H (ad n) = _; rw [e]; exact h1
    · exact g2 x hx
section
variable {X : Cx} {F : Fm} {own : List Cell} {ρ : Ro} {Q : QE} {k : Nat} {C : Addr} {pre : List (Addr × List D) → List D → Prop} {post : List D → D → Prop} {I : List D → List D → Prop} {x m : Str} {p pos apos : Pos} {e o : Expr} {es : List Expr}
abbrev adOf (ls : List Addr) : Nat → Addr := fun n => ls[n]?.getD 0
theorem adOf_at {ls : List Addr} : ∀ n l, ls[n]? = some l → adOf ls n = l := fun n l h => by show ls[n]?.getD 0 = l; rw [h]; rfl
theorem spQ_use {ls own H Qv} {rs : List R} {vs : List V} (st : St0 X.K F ls own H) (rr : RReps X.K ls (F.g ls own H) rs vs) (hp : ∀ ad, ∃ bs ds, Lend own ad rs ds bs ∧ pre bs ds ∧ ∀ d, post ds d → Q own (.d d)) (k : KV' X F ls own H Q Qv) (E : XK) : spQ X.K pre post vs H Qv E := by
  obtain ⟨bs, ds, ln, hpre, q⟩ := hp (adOf ls)
  obtain ⟨g1, g2⟩ := ln.use st adOf_at rr
  exact ⟨F.S0 ++ live ls own, bs, ds, st.hid, g2, g1, hpre, fun H' d v sm rd pd => k _ _ _ (.d d) _ (Le.grow sm) (st.grow sm) rd (q d pd)⟩
theorem spQN_use {ls own H Qv} {rs : List R} {vs : List V} (st : St0 X.K F ls own H) (rr : RReps X.K ls (F.g ls own H) rs vs) (hp : ∀ ad, ∃ bs ds, Lend own ad rs ds bs ∧ pre bs ds ∧ ∀ qs, I ds qs → Q (own ++ [.lst (qs.map R.d)]) (.c own.length)) (k : KV' X F ls own H Q Qv) (E : XK) : spQN X.K pre I vs H Qv E := by
  obtain ⟨bs, ds, ln, hpre, q⟩ := hp (adOf ls)
  obtain ⟨g1, g2⟩ := ln.use st adOf_at rr
  refine ⟨F.S0 ++ live ls own, bs, ds, st.hid, g2, g1, hpre, fun p H' xs qs sm hn h1 h2 h3 => ?_⟩
  have z := st0_adopt (c := .lst (qs.map R.d)) st sm hn (fun z => by cases z) ⟨xs, h1, RReps.ofD h2⟩
  exact k _ _ _ (.c own.length) _ z.2 z.1 ⟨p, by rw [← st.len]; simp, rfl⟩ (q qs h3)
theorem E.dcallQ (G : DOk X.prog X.w X.K X.mg X.base CX0 x k (spQ X.K pre post)) (hr : Room k X.A)
    (h : A X F (e :: es) (fun o rs => ∀ ad, ∃ bs ds, Lend o ad rs ds bs ∧ pre bs ds ∧ ∀ d, post ds d → Q o (.d d)) own ρ) (hg : Gl X x := by rfl) (hdb : (x == ("__debug__" : Str)) = false := by decide) (he : starEach (e :: es) X.env = (false, eval e X.env) :: starEach es X.env := by rfl)
    (hpl : (backTo pos (starEach es X.env)).any (·.1) = false := by rfl) : E X F (.Call (.Name x p) (e :: es) [] pos) Q own ρ := by
  obtain ⟨f, fd, ps, hm, hk, G, hb⟩ := G
  constructor
  intro ls σ H st sr Qv kk
  refine (pe_call G hr hg hm hk hb .nil pass0 pa_wa hdb he hpl).to ?_
  refine h ls σ H st sr _ fun ls1 own1 H1 rs vs l1 s1 rr q => ?_
  rw [List.append_nil]
  exact spQ_use s1 rr q (fun _ _ _ _ _ l => kk _ _ _ _ _ (l1.trans l)) _
theorem E.dcallQN (G : DOk X.prog X.w X.K X.mg X.base CX0 x k (spQN X.K pre I)) (hr : Room k X.A)
    (h : A X F (e :: es) (fun o rs => ∀ ad, ∃ bs ds, Lend o ad rs ds bs ∧ pre bs ds ∧ ∀ qs, I ds qs → Q (o ++ [.lst (qs.map R.d)]) (.c o.length)) own ρ) (hg : Gl X x := by rfl) (hdb : (x == ("__debug__" : Str)) = false := by decide) (he : starEach (e :: es) X.env = (false, eval e X.env) :: starEach es X.env := by rfl)
    (hpl : (backTo pos (starEach es X.env)).any (·.1) = false := by rfl) : E X F (.Call (.Name x p) (e :: es) [] pos) Q own ρ := by
  obtain ⟨f, fd, ps, hm, hk, G, hb⟩ := G
  constructor
  intro ls σ H st sr Qv kk
  refine (pe_call G hr hg hm hk hb .nil pass0 pa_wa hdb he hpl).to ?_
  refine h ls σ H st sr _ fun ls1 own1 H1 rs vs l1 s1 rr q => ?_
  rw [List.append_nil]
  exact spQN_use s1 rr q (fun _ _ _ _ _ l => kk _ _ _ _ _ (l1.trans l)) _
end
end DL

namespace DL
open PySem PySem.Spec PyProof.Rows L2
/-! ### methods and makings that may be lent lists -/
/-- an __init__ that may be lent lists -/
def spQI (K : PySem.W.Frag) (C : Addr) (ns : List Str) (pre : List (Addr × List D) → List D → Prop) (post : List D → List D → Prop) : Sp := fun vs H Q _ => ∃ (S : List Addr) (bs : List (Addr × List D)) (x dx : Addr) (ws : List V) (ds : List D), vs = .ref x :: ws ∧ x ∉ S ∧ (∀ b ∈ S, Hid (H b)) ∧
  H x = some (.ins C dx []) ∧ (∀ y ∈ bs, y.1 ∈ S ∧ ∃ xs, H y.1 = some (.lst xs) ∧ Reps K (msk (S ++ [x]) H) y.2 xs) ∧ Reps K (msk (S ++ [x]) H) ds ws ∧ pre bs ds ∧
  ∀ H' dx' xs fs, (∀ b o, b ≠ x → H b = some o → H' b = some o) → H' x = some (.ins C dx' (ns.zip xs)) → ns.length = fs.length → Reps K (msk (S ++ [x]) H') fs xs → post ds fs → Q .non H'
section
variable {P : Program} {w : World} {K : PySem.W.Frag} {mg : Str → Option Value} {base : Heap}
abbrev fQI (H : Hp) (S : List Addr) (l : Addr) : Fm := { H0 := H, S0 := S, mu := [l], ga := msk (S ++ [l]) H }
theorem ok_QI {x qual : Str} {st : Stmt} {f C : Addr} {fd : FuncData} {N ps ns : List Str} {k : Nat} (F : Fun K x qual st f fd) (S : FnScope N ps (defScope st)) {pre : List (Addr × List D) → List D → Prop} {post : List D → List D → Prop} (hlen : ∀ bs ds, pre bs ds → ds.length + 1 = ps.length)
    (body : ∀ (cdv : Value) (A : Around) (outer : List Env) (s : Shared) (H : Hp) (E : XK) (Fr : Fm) (bs : List (Addr × List D)) (ds : List D), Room k (A.deeper (envOfC qual (defScope st) s.heap.objs.size f cdv)) → (∀ x ∈ bs, Brw K Fr x.1 x.2) → pre bs ds →
      W (cx0 P w K mg base N qual (defScope st) f cdv A outer s H E) Fr (defBody st) { nx := fun own _ => ∃ fs : List D, own[0]? = some (.ins C ns (fs.map R.d)) ∧ post ds fs, rt := fun own r => r = .d .non ∧ ∃ fs : List D, own[0]? = some (.ins C ns (fs.map R.d)) ∧ post ds fs } [.ins C [] []] (ent N.length (.c 0 :: ds.map R.d))) :
    FnOk P w K mg base CX0 (k + 1) f fd ps (spQI K C ns pre post) := by
  refine F.ok S (fun vs H Q E h => ?_) (fun cdv A outer s H vs Q E hr h => ?_)
  · obtain ⟨_, bs, l, dx, ws, ds, rfl, _, _, _, _, h7, h8, _⟩ := h
    rw [List.length_cons, ← h7.length]; exact hlen bs ds h8
  · obtain ⟨S0, bs, l, dx, ws, ds, rfl, hl, h1, h4, hbs, h7, h8, kk⟩ := h
    refine ⟨_, pss_ws, ?_⟩
    have st0 : St0 K (fQI H S0 l) [l] [.ins C [] []] H := by
      refine ⟨rfl, by simp, fun b hb => ?_, fun j b c e1 e2 => ?_, fun b o _ e => e, fun b h => h, h1, fun b hb => by rw [List.mem_singleton.mp hb, h4]; exact fun z => (by cases z), List.nil_prefix, Same.refl _⟩
      · rw [List.mem_singleton.mp hb]; exact ⟨hl, .inr (by simp)⟩
      · cases j with
        | zero =>
          simp at e1 e2
          subst e1; subst e2
          exact ⟨dx, [], h4, rfl, .nil⟩
        | succ j => simp at e1
    have sr : SRep K [l] (Fm.g (fQI H S0 l) [l] [.ins C [] []] H) (ent N.length (.c 0 :: ds.map R.d)) (L2.start N (.ref l :: ws)) := start_rep N (.cons ⟨l, rfl, rfl⟩ (RReps.ofD h7))
    have lent : ∀ x ∈ bs, Brw K (fQI H S0 l) x.1 x.2 := fun x hx => ⟨(hbs x hx).1, by simp only [List.mem_singleton]; exact fun z => hl (by rw [← z]; exact (hbs x hx).1), (hbs x hx).2⟩
    have fin : ∀ {ls' : List Addr} {own' : List Cell} {H' : Hp}, Le (fQI H S0 l) [l] [.ins C [] []] H ls' own' H' → St0 K (fQI H S0 l) ls' own' H' → (∃ fs : List D, own'[0]? = some (.ins C ns (fs.map R.d)) ∧ post ds fs) → Q .non H' := by
      rintro ls' own' H' le s' ⟨fs, ec, q⟩
      have e0 : ls'[0]? = some l := pre_get le.pre rfl
      obtain ⟨dx', xs', g1, g2, g3⟩ := s'.at_ 0 l _ e0 ec
      refine kk _ _ _ _ (fun b o hb e => s'.keep b o (by simpa using hb) e) g1 (by rw [g2, List.length_map]) (Reps.mono (msk_le fun b hb => ?_) (RReps.toD g3)) q
      rcases List.mem_append.mp hb with h | h
      · exact List.mem_append_left _ h
      · rw [List.mem_singleton.mp h]; exact List.mem_append_right _ (live_get e0 ec fun z => by cases z)
    refine body cdv A outer s H E (fQI H S0 l) bs ds hr lent h8 [l] (L2.start N (.ref l :: ws)) H st0 sr _ ⟨?_, ?_, ?_, ?_⟩
    · intro ls' own' H' ρ σ le s' _ q
      exact fin le s' q
    · rintro ls' own' H' r v le s' rv ⟨rfl, q⟩
      have e := rr_non rv
      subst e
      exact fin le s' q
    · intro _ _ _ _ _ _ _ _ q; exact q
    · intro _ _ _ _ _ _ _ _ q; exact q
end
section
variable {X : Cx} {F : Fm} {own : List Cell} {ρ : Ro} {Q : QE} {k : Nat} {f C : Addr} {fd : FuncData} {ps : List Str} {pre : List (Addr × List D) → List D → Prop} {post : List D → D → Prop} {postI : List D → List D → Prop} {I : List D → List D → Prop} {x m : Str} {p pos apos : Pos} {e o : Expr} {es : List Expr} {ns : List Str}
/-- C(e, ..), cells lent -/
theorem E.dmakeQ (G : IOk X.prog X.w X.K X.mg X.base CX0 C k [] (spQI X.K C ns pre postI)) (hm : X.mg x = some (.ref C)) (hr : Room (k + 1) X.A)
    (h : A X F (e :: es) (fun o rs => ∀ ad, ∃ bs ds, Lend o ad rs ds bs ∧ pre bs ds ∧ ∀ fs, postI ds fs → Q o (.d (.ins C ns fs))) own ρ) (hg : Gl X x := by rfl) (hdb : (x == ("__debug__" : Str)) = false := by decide) (he : starEach (e :: es) X.env = (false, eval e X.env) :: starEach es X.env := by rfl)
    (hpl : (backTo pos (starEach es X.env)).any (·.1) = false := by rfl) : E X F (.Call (.Name x p) (e :: es) [] pos) Q own ρ := by
  obtain ⟨f, fd, ps, dvs, dus, M, G, hb, hdv, hdd⟩ := G
  constructor
  intro ls σ H st sr Qv kk
  refine (pe_make M G hr hg hm hb hdv pass0 pa_wa hdb he hpl).to ?_
  refine h ls σ H st sr _ fun ls1 own1 H1 rs vs l1 s1 rr hq => ?_
  obtain ⟨bs, ds, ln, hp, q⟩ := hq (adOf ls1)
  obtain ⟨g1, g2⟩ := ln.use s1 adOf_at rr
  intro a dx ha hdx hne
  have edv : dvs = [] := by
    have := hdd (fun _ => none)
    simpa only [Reps] using this
  subst edv
  rw [List.append_nil]
  have hid : a ∉ F.S0 ++ live ls1 own1 := fun z => (s1.hid a z).ne ha
  have sm0 : Same H1 (upd (upd H1 dx (.own a)) a (.ins C dx [])) := fun b o e => by rw [upd_ne (ne_of_none e ha), upd_ne (ne_of_none e hdx)]; exact e
  have smk : Same (msk (F.S0 ++ live ls1 own1) H1) (msk ((F.S0 ++ live ls1 own1) ++ [a]) (upd (upd H1 dx (.own a)) a (.ins C dx []))) := fun b o e => by
    have hb : b ≠ a := fun z => by
      subst z
      have := msk_same _ _ _ _ e
      rw [ha] at this; cases this
    have e : msk (F.S0 ++ live ls1 own1) H1 b = some o := e
    unfold msk at e ⊢
    split at e
    · cases e
    · rename_i hn
      rw [if_neg (by rw [List.mem_append, List.mem_singleton]; exact fun z => z.elim hn hb)]
      exact sm0 b o e
  refine ⟨F.S0 ++ live ls1 own1, bs, a, dx, _, ds, rfl, hid, fun b hb => ?_, upd_same, fun y hy => ?_, Reps.mono smk g1, hp, fun H' dx' xs fs hm' a1 a2 a3 a4 => ⟨rfl, ?_⟩⟩
  · exact (s1.hid b hb).up (sm0 b)
  · obtain ⟨y1, xs, y2, y3⟩ := g2 y hy
    exact ⟨y1, xs, sm0 _ _ y2, Reps.mono smk y3⟩
  · have sm : Same H1 H' := fun b o e => hm' b o (fun z => by subst z; rw [ha] at e; cases e) (sm0 b o e)
    refine kk ls1 own1 H' (.d (.ins C ns fs)) _ (l1.trans (Le.grow sm)) (s1.grow sm) ?_ (q fs a4)
    simp only [RRep, Rep]
    refine ⟨a, dx', xs, rfl, ?_, a2, Reps.mono (msk_le fun b hb => List.mem_append_left _ hb) a3⟩
    show msk (F.S0 ++ live ls1 own1) H' a = _
    rw [msk_out hid]
    exact a1
/-- o.m(e, ..), cells lent -/
theorem E.dmethQ {pl : Sem Bool} (c : Cls X.K C) (G : MOk X.prog X.w X.K X.mg X.base CX0 C m k (spQ X.K pre post)) (hr : Room k X.A)
    (h : E X F o (fun o1 r => ∃ ns ds0, r = .d (.ins C ns ds0) ∧ (ns.zip ds0).lookup m = none ∧ A X F (e :: es) (fun o2 rs => ∀ ad, ∃ bs ds, Lend o2 ad rs ds bs ∧ pre bs (.ins C ns ds0 :: ds) ∧ ∀ d, post (.ins C ns ds0 :: ds) d → Q o2 (.d d)) o1 ρ) own ρ)
    (hst : starEach (e :: es) X.env = (false, eval e X.env) :: starEach es X.env := by rfl) (hpl : (backTo pos (starEach es X.env)).any (·.1) = false := by rfl)
    (ht : eval (.Call (.Attribute o m apos) (e :: es) [] pos) X.env = (do
      let ov ← eval o X.env
      standAt apos.atName
      let (f, first) ← holding [ov] (getMethod ov m pl)
      callWith pos f first (backTo pos (starEach (e :: es) X.env)) (backToKw pos (keywordEach [] X.env))) := by rfl) : E X F (.Call (.Attribute o m apos) (e :: es) [] pos) Q own ρ := by
  obtain ⟨f, fd, ps, h1, h2, h3, G, hb⟩ := G
  constructor
  intro ls σ H st sr Qv kk
  refine (pe_meth pe_we c ⟨h1, h2, h3⟩ G hr hb .nil pass0 pa_wa hst hpl ht).to ?_
  refine h ls σ H st sr _ fun ls1 own1 H1 r u l1 s1 rr ⟨ns, ds0, er, hn, ha⟩ => ?_
  subst er
  obtain ⟨a, dx, fs, rfl, g1, g2⟩ := meth_core s1 rr hn
  refine ⟨a, dx, fs, rfl, g1, g2, ?_⟩
  refine ha ls1 σ H1 s1 (sr.up l1.pre l1.same) _ fun ls2 own2 H2 rs vs l2 s2 rr2 q => ?_
  rw [List.append_nil]
  refine spQ_use (rs := .d (.ins C ns ds0) :: rs) s2 (.cons (rr.up l2.pre l2.same) rr2) (fun ad => ?_) (fun _ _ _ _ _ l => kk _ _ _ _ _ ((l1.trans l2).trans l)) _
  obtain ⟨bs, ds, ln, q1, q2⟩ := q ad
  exact ⟨bs, _, .dat ln, q1, q2⟩
theorem E.dmethQN {pl : Sem Bool} (c : Cls X.K C) (G : MOk X.prog X.w X.K X.mg X.base CX0 C m k (spQN X.K pre I)) (hr : Room k X.A)
    (h : E X F o (fun o1 r => ∃ ns ds0, r = .d (.ins C ns ds0) ∧ (ns.zip ds0).lookup m = none ∧ A X F (e :: es) (fun o2 rs => ∀ ad, ∃ bs ds, Lend o2 ad rs ds bs ∧ pre bs (.ins C ns ds0 :: ds) ∧ ∀ qs, I (.ins C ns ds0 :: ds) qs → Q (o2 ++ [.lst (qs.map R.d)]) (.c o2.length)) o1 ρ) own ρ)
    (hst : starEach (e :: es) X.env = (false, eval e X.env) :: starEach es X.env := by rfl) (hpl : (backTo pos (starEach es X.env)).any (·.1) = false := by rfl)
    (ht : eval (.Call (.Attribute o m apos) (e :: es) [] pos) X.env = (do
      let ov ← eval o X.env
      standAt apos.atName
      let (f, first) ← holding [ov] (getMethod ov m pl)
      callWith pos f first (backTo pos (starEach (e :: es) X.env)) (backToKw pos (keywordEach [] X.env))) := by rfl) : E X F (.Call (.Attribute o m apos) (e :: es) [] pos) Q own ρ := by
  obtain ⟨f, fd, ps, h1, h2, h3, G, hb⟩ := G
  constructor
  intro ls σ H st sr Qv kk
  refine (pe_meth pe_we c ⟨h1, h2, h3⟩ G hr hb .nil pass0 pa_wa hst hpl ht).to ?_
  refine h ls σ H st sr _ fun ls1 own1 H1 r u l1 s1 rr ⟨ns, ds0, er, hn, ha⟩ => ?_
  subst er
  obtain ⟨a, dx, fs, rfl, g1, g2⟩ := meth_core s1 rr hn
  refine ⟨a, dx, fs, rfl, g1, g2, ?_⟩
  refine ha ls1 σ H1 s1 (sr.up l1.pre l1.same) _ fun ls2 own2 H2 rs vs l2 s2 rr2 q => ?_
  rw [List.append_nil]
  refine spQN_use (rs := .d (.ins C ns ds0) :: rs) s2 (.cons (rr.up l2.pre l2.same) rr2) (fun ad => ?_) (fun _ _ _ _ _ l => kk _ _ _ _ _ ((l1.trans l2).trans l)) _
  obtain ⟨bs, ds, ln, q1, q2⟩ := q ad
  exact ⟨bs, _, .dat ln, q1, q2⟩
end
end DL

namespace DL
open PySem PySem.Spec PyProof.Rows L2
/-! ### plain data: comparing -/
mutual
def pyd : D → PyData
  | .non => .none
  | .bl b => .bool b
  | .int i => .int i
  | .str s => .str s
  | .lst ds => .list (pyds ds)
  | .rol ds => .list (pyds ds)
  | .rot ds => .tuple (pyds ds)
  | .dct _ _ => .none
  | .tup ds => .tuple (pyds ds)
  | .ty _ => .none
  | .ref _ => .none
  | .ins _ _ _ => .none
def pyds : List D → List PyData
  | [] => []
  | d :: ds => pyd d :: pyds ds
end
mutual
def plain : D → Bool
  | .non => true
  | .bl _ => true
  | .int _ => true
  | .str _ => true
  | .lst ds => plains ds
  | .rol ds => plains ds
  | .rot ds => plains ds
  | .dct _ _ => false
  | .tup ds => plains ds
  | .ty _ => false
  | .ref _ => false
  | .ins _ _ _ => false
def plains : List D → Bool
  | [] => true
  | d :: ds => plain d && plains ds
end
section
variable {K : PySem.W.Frag} {S : List Addr} {H : Hp}
mutual
theorem dp_of : ∀ {d : D} {v : V}, Rep K (msk S H) d v → plain d = true → Dp K H v (pyd d)
  | .non, v, h, _ => by simp only [Rep] at h; subst h; simp only [pyd]; exact .non
  | .bl b, v, h, _ => by simp only [Rep] at h; subst h; simp only [pyd]; exact .bl b
  | .int i, v, h, _ => by simp only [Rep] at h; subst h; simp only [pyd]; exact .int i
  | .str s, v, h, _ => by simp only [Rep] at h; subst h; simp only [pyd]; exact .str s
  | .lst ds, v, h, hp => by
    simp only [Rep] at h
    obtain ⟨p, xs, rfl, h2, h3⟩ := h
    simp only [pyd]
    exact .lst (sq_h h2) (dps_of h3 (by simpa only [plain] using hp))
  | .rol ds, v, h, hp => by
    simp only [Rep] at h
    obtain ⟨p, xs, rfl, h2, h3⟩ := h
    simp only [pyd]
    exact .lst ((msk_same _ _).seq h2) (dps_of h3 (by simpa only [plain] using hp))
  | .tup ds, v, h, hp => by
    simp only [Rep] at h
    obtain ⟨p, xs, rfl, h2, h3⟩ := h
    simp only [pyd]
    exact .tup (.inl (.inl (msk_same _ _ _ _ h2))) (dps_of h3 (by simpa only [plain] using hp))
  | .rot ds, v, h, hp => by
    simp only [Rep] at h
    obtain ⟨p, xs, rfl, h2, h3⟩ := h
    simp only [pyd]
    exact .tup (Same.seqT (msk_same _ _) h2) (dps_of h3 (by simpa only [plain] using hp))
  | .dct _ _, _, _, hp => by simp only [plain] at hp; cases hp
  | .ty _, _, _, hp => by simp only [plain] at hp; cases hp
  | .ref _, _, _, hp => by simp only [plain] at hp; cases hp
  | .ins _ _ _, _, _, hp => by simp only [plain] at hp; cases hp
theorem dps_of : ∀ {ds : List D} {vs : List V}, Reps K (msk S H) ds vs → plains ds = true → DpAll K H vs (pyds ds)
  | [], _, h, _ => by simp only [Reps] at h; subst h; simp only [pyds]; exact .nil
  | d :: ds, _, h, hp => by
    simp only [Reps] at h
    obtain ⟨x, r, rfl, h2, h3⟩ := h
    simp only [plains, Bool.and_eq_true] at hp
    simp only [pyds]
    exact .cons (dp_of h2 hp.1) (dps_of h3 hp.2)
end
end
theorem pyds_map {α : Type} (f : α → D) : ∀ xs : List α, pyds (xs.map f) = xs.map fun x => pyd (f x)
  | [] => by simp only [List.map_nil, pyds]
  | x :: xs => by simp only [List.map_cons, pyds, pyds_map f xs]
theorem plains_map {α : Type} (f : α → D) (h : ∀ x, plain (f x) = true) : ∀ xs : List α, plains (xs.map f) = true
  | [] => by simp only [List.map_nil, plains]
  | x :: xs => by simp only [List.map_cons, plains, h x, plains_map f h xs, Bool.and_true]
theorem eqvAll_map {α : Type} [DecidableEq α] (f : α → PyData) (h : ∀ a b, PyData.eqv (f a) (f b) = decide (a = b)) : ∀ xs ys : List α, PyData.eqvAll (xs.map f) (ys.map f) = decide (xs = ys)
  | [], [] => by simp [PyData.eqvAll]
  | x :: xs, [] => by simp [PyData.eqvAll]
  | [], y :: ys => by simp [PyData.eqvAll]
  | x :: xs, y :: ys => by
    simp only [List.map_cons, PyData.eqvAll, h x y, eqvAll_map f h xs ys]
    by_cases h1 : x = y <;> by_cases h2 : xs = ys <;> simp [h1, h2]
/-- a kind of data told by plain Lean values: told apart by ==, of small depth -/
structure Enc (α : Type) [DecidableEq α] (f : α → D) (n : Nat) : Prop where
  pl : ∀ a, plain (f a) = true
  eq : ∀ a b, PyData.eqv (pyd (f a)) (pyd (f b)) = decide (a = b)
  lay : ∀ a, (pyd (f a)).canLay0 = true
  dep : ∀ a, (pyd (f a)).depth ≤ n
theorem Enc.int : Enc Int D.int 0 := ⟨fun _ => rfl, fun a b => by simp only [pyd, PyData.eqv]; exact (Bool.beq_eq_decide_eq a b), fun _ => rfl, fun _ => Nat.le_refl _⟩
theorem Enc.bl : Enc Bool D.bl 0 := ⟨fun _ => rfl, fun a b => by cases a <;> cases b <;> rfl, fun _ => rfl, fun _ => Nat.le_refl _⟩
theorem layAll_map {α : Type} (f : α → PyData) (h : ∀ a, (f a).canLay0 = true) : ∀ xs : List α, PyData.canLayAll0 (xs.map f) = true
  | [] => rfl
  | x :: xs => by simp only [List.map_cons, PyData.canLayAll0, h x, layAll_map f h xs, Bool.and_true]
theorem depAll_map {α : Type} {n : Nat} (f : α → PyData) (h : ∀ a, (f a).depth ≤ n) : ∀ xs : List α, PyData.depthAll (xs.map f) ≤ n
  | [] => by simp only [List.map_nil, PyData.depthAll]; omega
  | x :: xs => by
    simp only [List.map_cons, PyData.depthAll]
    exact Nat.max_le.mpr ⟨h x, depAll_map f h xs⟩
theorem Enc.lst {α : Type} [DecidableEq α] {f : α → D} {n : Nat} (e : Enc α f n) : Enc (List α) (fun xs => .lst (xs.map f)) (n + 1) where
  pl := fun a => by simp only [plain]; exact plains_map f e.pl a
  eq := fun a b => by simp only [pyd, pyds_map, PyData.eqv]; exact eqvAll_map _ e.eq a b
  lay := fun a => by simp only [pyd, pyds_map, PyData.canLay0]; exact layAll_map _ e.lay a
  dep := fun a => by simp only [pyd, pyds_map, PyData.depth]; exact Nat.succ_le_succ (depAll_map _ e.dep a)
theorem Enc.tup {α : Type} [DecidableEq α] {f : α → D} {n : Nat} (e : Enc α f n) : Enc (List α) (fun xs => .tup (xs.map f)) (n + 1) where
  pl := fun a => by simp only [plain]; exact plains_map f e.pl a
  eq := fun a b => by simp only [pyd, pyds_map, PyData.eqv]; exact eqvAll_map _ e.eq a b
  lay := fun a => by simp only [pyd, pyds_map, PyData.canLay0]; exact layAll_map _ e.lay a
  dep := fun a => by simp only [pyd, pyds_map, PyData.depth]; exact Nat.succ_le_succ (depAll_map _ e.dep a)
theorem Enc.shaped {α : Type} [DecidableEq α] {f : α → D} {n : Nat} (e : Enc α f n) (hn : n ≤ 64 := by decide) (a : α) : SeqAt.shaped (pyd (f a)) = true := by
  unfold SeqAt.shaped
  rw [e.lay a, Bool.true_and, decide_eq_true_eq]
  exact Nat.le_trans (e.dep a) hn
section
variable {X : Cx} {F : Fm} {own : List Cell} {ρ : Ro} {Q : QE} {QT : QT} {x y : D} {b : Bool}
theorem O2.eqP (hu : X.A.units + 64 < cLine) (px : plain x = true) (py : plain y = true) (sx : SeqAt.shaped (pyd x) = true) (sy : SeqAt.shaped (pyd y) = true) (h : Q own (.d (.bl (PyData.eqv (pyd x) (pyd y))))) : O2 X F (.cmp .Eq) (.d x) (.d y) Q own := by
  constructor
  intro ls H u v st rx ry Qv k
  exact (op_eqD hu).to ⟨_, _, dp_of rx px, dp_of ry py, sx, sy, k _ _ _ (.d (.bl _)) _ Le.refl st ir_bl h⟩
theorem O2.neP (hu : X.A.units + 64 < cLine) (px : plain x = true) (py : plain y = true) (sx : SeqAt.shaped (pyd x) = true) (sy : SeqAt.shaped (pyd y) = true) (h : Q own (.d (.bl (!PyData.eqv (pyd x) (pyd y))))) : O2 X F (.cmp .NotEq) (.d x) (.d y) Q own := by
  constructor
  intro ls H u v st rx ry Qv k
  exact (op_neD hu).to ⟨_, _, dp_of rx px, dp_of ry py, sx, sy, k _ _ _ (.d (.bl _)) _ Le.refl st ir_bl h⟩
theorem O2.eqE {α : Type} [DecidableEq α] {f : α → D} {n : Nat} {a c : α} (e : Enc α f n) (hu : X.A.units + 64 < cLine) (h : Q own (.d (.bl (decide (a = c))))) (hn : n ≤ 64 := by decide) : O2 X F (.cmp .Eq) (.d (f a)) (.d (f c)) Q own :=
  O2.eqP hu (e.pl a) (e.pl c) (e.shaped hn a) (e.shaped hn c) (by rw [e.eq]; exact h)
theorem O2.neE {α : Type} [DecidableEq α] {f : α → D} {n : Nat} {a c : α} (e : Enc α f n) (hu : X.A.units + 64 < cLine) (h : Q own (.d (.bl (!decide (a = c))))) (hn : n ≤ 64 := by decide) : O2 X F (.cmp .NotEq) (.d (f a)) (.d (f c)) Q own :=
  O2.neP hu (e.pl a) (e.pl c) (e.shaped hn a) (e.shaped hn c) (by rw [e.eq]; exact h)
theorem any_eqv {α : Type} [DecidableEq α] {f : α → D} {n : Nat} (e : Enc α f n) (a : α) : ∀ cs : List α, ((pyds (cs.map f)).any fun z => PyData.eqv z (pyd (f a))) = decide (a ∈ cs)
  | [] => by simp [pyds]
  | c :: cs => by
    simp only [List.map_cons, pyds, List.any_cons, e.eq, any_eqv e a cs]
    by_cases h1 : c = a
    · subst h1; simp
    · have : ¬ a = c := fun z => h1 z.symm
      simp [h1, this]
/-- x in [..] -/
theorem O2.inE {α : Type} [DecidableEq α] {f : α → D} {n : Nat} {a : α} {cs : List α} (e : Enc α f n) (hu : X.A.units + 65 < cLine) (h : Q own (.d (.bl (decide (a ∈ cs))))) (hn : n + 1 ≤ 64 := by decide) : O2 X F (.cmp .In) (.d (f a)) (.d (.lst (cs.map f))) Q own := by
  constructor
  intro ls H u v st rx ry Qv k
  have d2 := dp_of ry (e.lst.pl cs)
  simp only [pyd] at d2
  have s2 := e.lst.shaped hn cs
  simp only [pyd] at s2
  exact (op_inD hu).to ⟨_, _, dp_of rx (e.pl a), d2, e.shaped (by omega) a, s2, k _ _ _ (.d (.bl _)) _ Le.refl st ir_bl (by rw [any_eqv e]; exact h)⟩
theorem O2.ninE {α : Type} [DecidableEq α] {f : α → D} {n : Nat} {a : α} {cs : List α} (e : Enc α f n) (hu : X.A.units + 65 < cLine) (h : Q own (.d (.bl (!decide (a ∈ cs))))) (hn : n + 1 ≤ 64 := by decide) : O2 X F (.cmp .NotIn) (.d (f a)) (.d (.lst (cs.map f))) Q own := by
  constructor
  intro ls H u v st rx ry Qv k
  have d2 := dp_of ry (e.lst.pl cs)
  simp only [pyd] at d2
  have s2 := e.lst.shaped hn cs
  simp only [pyd] at s2
  exact (op_notInD hu).to ⟨_, _, dp_of rx (e.pl a), d2, e.shaped (by omega) a, s2, k _ _ _ (.d (.bl _)) _ Le.refl st ir_bl (by rw [any_eqv e]; exact h)⟩
/-- x in / not in an own list -/
theorem O2.ninC {α : Type} [DecidableEq α] {f : α → D} {n m : Nat} {a : α} {cs : List α} (e : Enc α f n) (hu : X.A.units + 65 < cLine) (hc : own[m]? = some (.lst ((cs.map f).map R.d))) (h : Q own (.d (.bl (!decide (a ∈ cs))))) (hn : n + 1 ≤ 64 := by decide) : O2 X F (.cmp .NotIn) (.d (f a)) (.c m) Q own := by
  constructor
  intro ls H u v st rx ry Qv k
  obtain ⟨l, hl, rfl⟩ := ry
  obtain ⟨xs, g1, g2⟩ := st.at_ m l _ hl hc
  have s2 := e.lst.shaped hn cs
  simp only [pyd] at s2
  exact (op_notInD hu).to ⟨_, _, dp_of rx (e.pl a), .lst (.inl (.inl g1)) (dps_of (RReps.toD g2) (plains_map f e.pl cs)), e.shaped (by omega) a, s2, k _ _ _ (.d (.bl _)) _ Le.refl st ir_bl (by rw [any_eqv e]; exact h)⟩
/-- an own list == data -/
theorem O2.neC {α : Type} [DecidableEq α] {f : α → D} {n m : Nat} {a cs : List α} (e : Enc α f n) (hu : X.A.units + 64 < cLine) (hc : own[m]? = some (.lst ((cs.map f).map R.d))) (h : Q own (.d (.bl (!decide (cs = a))))) (hn : n + 1 ≤ 64 := by decide) : O2 X F (.cmp .NotEq) (.c m) (.d (.lst (a.map f))) Q own := by
  constructor
  intro ls H u v st rx ry Qv k
  obtain ⟨l, hl, rfl⟩ := rx
  obtain ⟨xs, g1, g2⟩ := st.at_ m l _ hl hc
  have s2 := e.lst.shaped hn cs
  simp only [pyd] at s2
  refine (op_neD hu).to ⟨_, _, .lst (.inl (.inl g1)) (dps_of (RReps.toD g2) (plains_map f e.pl cs)), dp_of ry (e.lst.pl a), s2, e.lst.shaped hn a, k _ _ _ (.d (.bl _)) _ Le.refl st ir_bl ?_⟩
  have := e.lst.eq cs a
  simp only [pyd] at this ⊢
  rw [this]; exact h
theorem O2.eqC {α : Type} [DecidableEq α] {f : α → D} {n m : Nat} {a cs : List α} (e : Enc α f n) (hu : X.A.units + 64 < cLine) (hc : own[m]? = some (.lst ((cs.map f).map R.d))) (h : Q own (.d (.bl (decide (cs = a))))) (hn : n + 1 ≤ 64 := by decide) : O2 X F (.cmp .Eq) (.c m) (.d (.lst (a.map f))) Q own := by
  constructor
  intro ls H u v st rx ry Qv k
  obtain ⟨l, hl, rfl⟩ := rx
  obtain ⟨xs, g1, g2⟩ := st.at_ m l _ hl hc
  have s2 := e.lst.shaped hn cs
  simp only [pyd] at s2
  refine (op_eqD hu).to ⟨_, _, .lst (.inl (.inl g1)) (dps_of (RReps.toD g2) (plains_map f e.pl cs)), dp_of ry (e.lst.pl a), s2, e.lst.shaped hn a, k _ _ _ (.d (.bl _)) _ Le.refl st ir_bl ?_⟩
  have := e.lst.eq cs a
  simp only [pyd] at this ⊢
  rw [this]; exact h
/-! ### a < b < c -/
variable {a c e1 : Expr} {op op' : CmpOp} {pos : Pos}
theorem E.chain (h : E X F a (fun o x => E X F e1 (fun o2 y => O2 X F (.cmp op) x y (fun o3 z => ∃ k, z = .d (.bl k) ∧ if k = true then E X F c (fun o4 w => O2 X F (.cmp op') y w Q o4) o3 ρ else Q o3 (.d (.bl false))) o2) o ρ) own ρ) (hm : lastMarks [op, op'] [e1, c] = false := by rfl) : E X F (.Compare a [op, op'] [e1, c] pos) Q own ρ := by
  constructor
  intro ls σ H st sr Qv k
  refine (pe_chain opr_wop opr_wop pe_we pe_we pe_we hm).to ?_
  refine h ls σ H st sr _ fun ls1 own1 H1 x u l1 s1 rx hb => ?_
  refine hb ls1 σ H1 s1 (sr.up l1.pre l1.same) _ fun ls2 own2 H2 y v l2 s2 ry ho => ?_
  refine ho ls2 H2 u v s2 (rx.up l2.pre l2.same) ry _ fun ls3 own3 H3 z w l3 s3 rz ⟨kb, ez, q⟩ => ?_
  subst ez
  refine ⟨kb, rr_bl rz, ?_⟩
  cases kb with
  | true =>
    refine iteT ?_
    refine (show E X F c _ own3 ρ from q) ls3 σ H3 s3 (sr.up ((l1.trans l2).trans l3).pre ((l1.trans l2).trans l3).same) _ fun ls4 own4 H4 z4 w4 l4 s4 r4 hq => ?_
    exact hq ls4 H4 v w4 s4 (ry.up (l3.trans l4).pre (l3.trans l4).same) r4 Qv fun _ _ _ _ _ l5 => k _ _ _ _ _ ((((l1.trans l2).trans l3).trans l4).trans l5)
  | false => exact iteF (k _ _ _ (.d (.bl false)) _ ((l1.trans l2).trans l3) s3 ir_bl q)
theorem T.chain (h : E X F a (fun o x => E X F e1 (fun o2 y => O2 X F (.cmp op) x y (fun o3 z => ∃ k, z = .d (.bl k) ∧ if k = true then E X F c (fun o4 w => O2 X F (.cmp op') y w (fun o5 z2 => ∃ k2, z2 = .d (.bl k2) ∧ QT o5 k2) o4) o3 ρ else QT o3 false) o2) o ρ) own ρ) (hm : lastMarks [op, op'] [e1, c] = false := by rfl) : T X F (.Compare a [op, op'] [e1, c] pos) QT own ρ := by
  constructor
  intro ls σ H st sr Qb k
  refine (pt_chain opr_wop opr_wop pe_we pe_we pe_we hm).to ?_
  refine h ls σ H st sr _ fun ls1 own1 H1 x u l1 s1 rx hb => ?_
  refine hb ls1 σ H1 s1 (sr.up l1.pre l1.same) _ fun ls2 own2 H2 y v l2 s2 ry ho => ?_
  refine ho ls2 H2 u v s2 (rx.up l2.pre l2.same) ry _ fun ls3 own3 H3 z w l3 s3 rz ⟨kb, ez, q⟩ => ?_
  subst ez
  refine ⟨kb, rr_bl rz, ?_⟩
  cases kb with
  | true =>
    refine iteT ?_
    refine (show E X F c _ own3 ρ from q) ls3 σ H3 s3 (sr.up ((l1.trans l2).trans l3).pre ((l1.trans l2).trans l3).same) _ fun ls4 own4 H4 z4 w4 l4 s4 r4 hq => ?_
    refine hq ls4 H4 v w4 s4 (ry.up (l3.trans l4).pre (l3.trans l4).same) r4 _ fun ls5 own5 H5 z5 w5 l5 s5 r5 ⟨k2, ez2, q2⟩ => ?_
    subst ez2
    exact ⟨k2, rr_bl r5, k _ _ _ _ ((((l1.trans l2).trans l3).trans l4).trans l5) s5 q2⟩
  | false => exact iteF ⟨false, rfl, k _ _ _ _ ((l1.trans l2).trans l3) s3 q⟩
end
end DL

namespace DL
open PySem PySem.Spec PyProof.Rows L2
/-! ### sum, max, min of a tuple of ints; list(range(n)) -/
section
variable {prog : Program} {w : World} {A : Around} {E : Value → Shared → Prop} {s : Shared} {l : Addr} {xs : Array (Int × Tok)} {Q : Value → Shared → Prop}
theorem tup_it {R : Shared → Prop} (hl : s.heap.IsTuple l (intItems xs)) (h : ∀ s₂ : Shared, s₂ = { s with heap := s.heap.push { cls := .type "tuple_iterator", data := .fields #[.ref l, .int 0 0] } } → (s₂.heap.IsTupleIter s.heap.objs.size l 0 ∧ s₂.heap.IsTuple l (intItems xs)) → (∀ b ∈ [s.heap.objs.size, l], b < s₂.heap.objs.size) → l ≠ s.heap.objs.size → Q (.ref s.heap.objs.size) s₂) : wpAny (model prog w) A (pyIter (.ref l)) Q E s := by
  obtain ⟨o, e, h2⟩ := id hl
  have hlt := Heap.lt_size e
  refine wpAny_pyIter_tuple hl (h _ rfl ⟨⟨_, Heap.get?_push_size _ rfl, rfl, rfl⟩, hl.push _⟩ ?_ (Nat.ne_of_lt hlt))
  intro b hb; show b < (s.heap.push _).objs.size; rw [Heap.size_push]
  simp only [List.mem_cons, List.not_mem_nil, or_false] at hb
  rcases hb with rfl | rfl
  · exact Nat.lt_succ_self _
  · exact Nat.lt_succ_of_lt hlt
theorem tup_old {h' : Heap} (hk : ∀ b o, b ∉ [s.heap.objs.size] → (s.heap.push { cls := .type "tuple_iterator", data := .fields #[.ref l, .int 0 0] }).get? b = some o → h'.get? b = some o) (b : Addr) (o : Obj) (e : s.heap.get? b = some o) : h'.get? b = some o :=
  hk b o (fun z => by have := Heap.lt_size e; rw [List.mem_singleton.mp z] at this; exact Nat.lt_irrefl _ this) (Heap.get?_push_of_some _ e)
theorem sum_tup (hh : A.handled = none) (hl : s.heap.IsTuple l (intItems xs)) (h : ∀ h' tk t', (∀ b o, s.heap.get? b = some o → h'.get? b = some o) → Q (.int (preSum (numAt xs) xs.size) t') { s with heap := h', toks := tk }) : wpAny (model prog w) A (call (.builtin "sum") [.ref l]) Q E s := by
  refine call_sum_walkG (tup_it (R := fun _ => True) hl fun s₂ e st hfp ne => ?_)
  subst e
  exact ⟨_, _, _, _, _, _, numAt xs, rfl, Walks.tuple (A := A.in1) hh _ l ne (intItems xs), st, hfp, fun _ _ => intItems_at, fun h' tk t' hk => by have := h h' tk t' (tup_old hk); simpa [intItems] using this⟩
theorem max_tup (hh : A.handled = none) (hl : s.heap.IsTuple l (intItems xs)) (hne : 0 < xs.size) (h : ∀ v h' tk, (intItems xs)[argBest (fun i j => decide (numAt xs i > numAt xs j)) (xs.size - 1)]? = some v → (∀ b o, s.heap.get? b = some o → h'.get? b = some o) → Q v { s with heap := h', toks := tk }) : wpAny (model prog w) A (call (.builtin "max") [.ref l]) Q E s := by
  refine call_max_walk (tup_it (R := fun _ => True) hl fun s₂ e st hfp ne => ?_)
  subst e
  exact ⟨_, _, _, _, _, _, _, rfl, Walks.tuple (A := A.in1) hh _ l ne (intItems xs), st, hfp, by simpa [intItems] using hne, CmpOf.ints_gt (numAt xs) (fun _ _ => intItems_at), fun v h' tk hP hk => h v h' tk (by simpa [intItems] using hP) (tup_old hk)⟩
theorem min_tup (hh : A.handled = none) (hl : s.heap.IsTuple l (intItems xs)) (hne : 0 < xs.size) (h : ∀ v h' tk, (intItems xs)[argBest (fun i j => decide (numAt xs i < numAt xs j)) (xs.size - 1)]? = some v → (∀ b o, s.heap.get? b = some o → h'.get? b = some o) → Q v { s with heap := h', toks := tk }) : wpAny (model prog w) A (call (.builtin "min") [.ref l]) Q E s := by
  refine call_min_walk (tup_it (R := fun _ => True) hl fun s₂ e st hfp ne => ?_)
  subst e
  exact ⟨_, _, _, _, _, _, _, rfl, Walks.tuple (A := A.in1) hh _ l ne (intItems xs), st, hfp, by simpa [intItems] using hne, CmpOf.ints_lt (numAt xs) (fun _ _ => intItems_at), fun v h' tk hP hk => h v h' tk (by simpa [intItems] using hP) (tup_old hk)⟩
end
section
variable {X : Cx}
theorem cr_sumT (hc : X.calm = true) : CallR X (.builtin "sum") (fun vs H Q => ∃ (a : Addr) (ns : List Int), vs = [V.ref a] ∧ SqT X.K H a (ns.map V.int) ∧ Q (.int ns.sum) H) := by
  rintro pins s σ H vs us Q I r ⟨a, ns, rfl, hs, q⟩
  obtain ⟨its, rv, hl, _⟩ := I.tuple hs
  obtain ⟨xs, e⟩ := rv.ints.allInts.items
  have hn : numsOf (intItems xs).toList = ns := by rw [← e]; exact rv.ints.numsOf
  rw [nums_intItems] at hn
  rw [e] at hl
  rw [Vals.ref1 r]
  refine sum_tup (I.ok.hd hc) hl fun h' tk t' hk => ⟨.int _, H, I.kept hk, ⟨_, rfl⟩, ?_⟩
  rw [preSum_eq, List.take_of_length_le (by simp), hn]; exact q
theorem cr_maxT (hc : X.calm = true) : CallR X (.builtin "max") (fun vs H Q => ∃ (a : Addr) (ns : List Int), vs = [V.ref a] ∧ SqT X.K H a (ns.map V.int) ∧ 0 < ns.length ∧ ∀ m, m ∈ ns → (∀ y, y ∈ ns → y ≤ m) → Q (.int m) H) := by
  rintro pins s σ H vs us Q I r ⟨a, ns, rfl, hs, hne, q⟩
  obtain ⟨its, rv, hl, _⟩ := I.tuple hs
  obtain ⟨xs, e⟩ := rv.ints.allInts.items
  have hn : numsOf (intItems xs).toList = ns := by rw [← e]; exact rv.ints.numsOf
  rw [nums_intItems] at hn
  subst hn
  rw [e] at hl
  rw [Vals.ref1 r]
  have hsz : 0 < xs.size := by simpa using hne
  refine max_tup (I.ok.hd hc) hl hsz fun v h' tk hv hk => ?_
  obtain ⟨t, rfl⟩ := intItems_at hv
  obtain ⟨h1, h2⟩ := argBest_gt (numAt xs) (xs.size - 1)
  refine ⟨.int _, H, I.kept hk, ⟨_, rfl⟩, q _ (by rw [numAt_eq]; exact PySem.getD_mem (by rw [List.length_map, Array.length_toList]; omega)) fun b hb => ?_⟩
  obtain ⟨j, hj, rfl⟩ := mem_getD hb
  rw [List.length_map, Array.length_toList] at hj
  rw [← numAt_eq]; exact h2 j (by omega)
theorem cr_minT (hc : X.calm = true) : CallR X (.builtin "min") (fun vs H Q => ∃ (a : Addr) (ns : List Int), vs = [V.ref a] ∧ SqT X.K H a (ns.map V.int) ∧ 0 < ns.length ∧ ∀ m, m ∈ ns → (∀ y, y ∈ ns → m ≤ y) → Q (.int m) H) := by
  rintro pins s σ H vs us Q I r ⟨a, ns, rfl, hs, hne, q⟩
  obtain ⟨its, rv, hl, _⟩ := I.tuple hs
  obtain ⟨xs, e⟩ := rv.ints.allInts.items
  have hn : numsOf (intItems xs).toList = ns := by rw [← e]; exact rv.ints.numsOf
  rw [nums_intItems] at hn
  subst hn
  rw [e] at hl
  rw [Vals.ref1 r]
  have hsz : 0 < xs.size := by simpa using hne
  refine min_tup (I.ok.hd hc) hl hsz fun v h' tk hv hk => ?_
  obtain ⟨t, rfl⟩ := intItems_at hv
  obtain ⟨h1, h2⟩ := argBest_lt (numAt xs) (xs.size - 1)
  refine ⟨.int _, H, I.kept hk, ⟨_, rfl⟩, q _ (by rw [numAt_eq]; exact PySem.getD_mem (by rw [List.length_map, Array.length_toList]; omega)) fun b hb => ?_⟩
  obtain ⟨j, hj, rfl⟩ := mem_getD hb
  rw [List.length_map, Array.length_toList] at hj
  rw [← numAt_eq]; exact h2 j (by omega)
theorem cr_range1 : CallR X (.type "range") (fun vs H Q => ∃ j, vs = [V.int j] ∧ ∀ p, H p = none → Q (.ref p) (upd H p (.rng 0 j))) := by
  rintro pins s σ H vs us Q I r ⟨j, rfl, q⟩
  obtain ⟨u, rfl, ⟨t, rfl⟩⟩ := vals1 r
  refine call_range_1 ⟨.ref s.heap.objs.size, upd H s.heap.objs.size (.rng 0 j), I.laid (t' := s.toks + 1 + 1) (fun b o e => Heap.get?_push_of_some _ e) (Nat.le_refl _) ?_, rfl, q _ (I.hok.fresh (Nat.le_refl _))⟩
  exact ⟨s.toks, t, s.toks + 1, Heap.get?_push_size _ rfl⟩
theorem vals_get : ∀ {xs : List V} {us : List Value}, xs.length = us.length → (∀ (i : Nat) (x : V) (u : Value), xs[i]? = some x → us[i]? = some u → RelV x u) → Vals xs us
  | [], [], _, _ => .nil
  | [], _ :: _, h, _ => by simp at h
  | _ :: _, [], h, _ => by simp at h
  | x :: xs, u :: us, h, k => .cons (k 0 x u rfl rfl) (vals_get (by simpa using h) fun i a b e1 e2 => k (i + 1) a b (by simpa using e1) (by simpa using e2))
theorem cr_listRng (hc : X.calm = true) : CallR X (.type "list") (fun vs H Q => ∃ (a : Addr) (lo hi : Int), vs = [V.ref a] ∧ H a = some (.rng lo hi) ∧ -(2 ^ 40) ≤ lo ∧ hi < 2 ^ 40 ∧ lo < 2 ^ 40 ∧ -(2 ^ 40) ≤ hi ∧ (hi - lo).toNat ≤ 100000 ∧ ∀ p, H p = none → Q (.ref p) (upd H p (.lst ((List.range (hi - lo).toNat).map fun (i : Nat) => V.int (lo + i))))) := by
  rintro pins s σ H vs us Q I r ⟨a, lo, hi, rfl, ha, b1, b2, b3, b4, hz, q⟩
  obtain ⟨t1, t2, t3, ho⟩ := I.hok a _ ha
  rw [Vals.ref1 r]
  have hn : Builtin.Range.rangeSize lo hi 1 = ((hi - lo).toNat : Int) := by
    rw [rangeSize_one]; split <;> omega
  refine call_list_range (I.ok.hd hc) ho (small_one (by omega) (by omega) (by omega) (by omega)) hn (Nat.le_trans hz (by decide)) fun h' tk acc c kp e hacc => ?_
  have hv : Vals ((List.range (hi - lo).toNat).map fun (i : Nat) => V.int (lo + i)) acc.toList := by
    refine vals_get (by simp [hacc.1]) fun i x u e1 e2 => ?_
    obtain ⟨t, rfl⟩ := hacc.2 i u (by simpa using e2)
    have e1 := e1
    rw [List.getElem?_map] at e1
    cases q1 : (List.range (hi - lo).toNat)[i]? with
    | none => rw [q1] at e1; cases e1
    | some z =>
      rw [q1] at e1
      cases e1
      have : z = i := by
        have := List.getElem?_eq_some_iff.mp q1
        obtain ⟨_, e⟩ := this
        simpa using e.symm
      subst this
      exact ⟨t, by rw [Int.mul_one]⟩
  exact ⟨.ref _, _, I.laid (t' := tk) kp (Nat.le_refl _) (show ObjOk X.prog X.w _ h' _ (.lst _) from ⟨by rw [List.length_map, List.length_range]; exact Nat.le_trans hz (show 100000 ≤ sizeLine by decide), acc.toList, c, hv, by simpa using e⟩), rfl, q _ (I.hok.fresh (Nat.le_refl _))⟩
end
section
variable {X : Cx} {F : Fm} {own : List Cell} {ρ : Ro} {Q : QE} {QT : QT} {ns : List Int} {r : R} {xs ys : List D} {i : Int} {e : Expr} {p p2 pos pos2 : Pos}
/-- list(range(e)) -/
theorem E.lsR (hml : X.mg "list" = none) (hmr : X.mg "range" = none) (hc : X.calm = true) (h : E X F e (fun o r => ∃ m : Int, r = .d (.int m) ∧ -100000 ≤ m ∧ m ≤ 100000 ∧ Q o (.d (.lst ((List.range m.toNat).map fun (j : Nat) => .int j)))) own ρ)
    (hgl : Gl X "list" := by rfl) (hgr : Gl X "range" := by rfl) (he : starEach [e] X.env = [(false, eval e X.env)] := by rfl) (he2 : starEach [.Call (.Name "range" p2) [e] [] pos2] X.env = [(false, eval (.Call (.Name "range" p2) [e] [] pos2) X.env)] := by rfl) :
    E X F (.Call (.Name "list" p) [.Call (.Name "range" p2) [e] [] pos2] [] pos) Q own ρ := by
  constructor
  intro ls σ H st sr Qv k
  refine (pe_callTy (cr_listRng hc) hgl hml (by decide +kernel) (pa_cons (pe_callTy cr_range1 hgr hmr (by decide +kernel) (pa_cons pe_we pa_nil he) (by decide) (by decide) he rfl) pa_nil he2) (by decide) (by decide) he2 rfl).to ?_
  refine h ls σ H st sr _ fun ls1 own1 H1 r v l1 s1 rr ⟨m, er, h1, h2, q⟩ => ?_
  subst er
  cases rr_int rr
  refine ⟨m, rfl, fun a ha => ?_⟩
  have e0 : (m - 0).toNat = m.toNat := by rw [Int.sub_zero]
  refine ⟨a, 0, m, rfl, upd_same, by omega, by omega, by omega, by omega, by omega, fun b hb => ?_⟩
  have sm : Same H1 (upd (upd H1 a (.rng 0 m)) b (.lst ((List.range (m - 0).toNat).map fun (j : Nat) => V.int (0 + j)))) := (same_new ha).trans (same_new hb)
  have hb1 : H1 b = none := by
    cases q1 : H1 b with
    | none => rfl
    | some o => rw [same_new ha b o q1] at hb; cases hb
  refine k _ _ _ (.d (.lst ((List.range m.toNat).map fun (j : Nat) => .int j))) _ (l1.trans (Le.grow sm)) (s1.grow sm) ?_ q
  have sn : F.g ls1 own1 (upd (upd H1 a (.rng 0 m)) b (.lst ((List.range (m - 0).toNat).map fun (j : Nat) => V.int (0 + j)))) b = some (.lst ((List.range (m - 0).toNat).map fun (j : Nat) => V.int (0 + j))) := (s1.grow (same_new ha)).seen hb
  simp only [RRep, Rep]
  refine ⟨b, _, rfl, sn, ?_⟩
  have e1 : ((List.range m.toNat).map fun (j : Nat) => D.int j) = ((List.range m.toNat).map fun (j : Nat) => (j : Int)).map D.int := by rw [List.map_map]; rfl
  have e2 : ((List.range (m - 0).toNat).map fun (j : Nat) => V.int (0 + j)) = ((List.range m.toNat).map fun (j : Nat) => (j : Int)).map V.int := by rw [List.map_map, e0]; congr 1; funext j; simp
  rw [e1, e2]
  exact Reps.ofInts
theorem Cl.sumL (hc : X.calm = true) (h : Q own (.d (.int ns.sum))) : Cl X F (.builtin "sum") [.d (.lst (ns.map D.int))] Q own := by
  constructor
  intro ls H vs st rr Qv k
  obtain ⟨v, rfl, rv⟩ := rrs1 rr
  obtain ⟨p, xs, rfl, h1, h2⟩ := lst_rr rv
  cases Reps.ints h2
  exact (cr_sum hc).to ⟨p, ns, rfl, sq_h h1, k _ _ _ (.d (.int _)) _ Le.refl st ir_int h⟩
theorem Cl.sumT (hc : X.calm = true) (h : Q own (.d (.int ns.sum))) : Cl X F (.builtin "sum") [.d (.tup (ns.map D.int))] Q own := by
  constructor
  intro ls H vs st rr Qv k
  obtain ⟨v, rfl, rv⟩ := rrs1 rr
  obtain ⟨p, xs, rfl, h1, h2⟩ := tup_rr rv
  cases Reps.ints h2
  exact (cr_sumT hc).to ⟨p, ns, rfl, Same.seqT (msk_same _ _) h1, k _ _ _ (.d (.int _)) _ Le.refl st ir_int h⟩
theorem Cl.maxT (hc : X.calm = true) (hne : 0 < ns.length) (h : ∀ m, m ∈ ns → (∀ y, y ∈ ns → y ≤ m) → Q own (.d (.int m))) : Cl X F (.builtin "max") [.d (.tup (ns.map D.int))] Q own := by
  constructor
  intro ls H vs st rr Qv k
  obtain ⟨v, rfl, rv⟩ := rrs1 rr
  obtain ⟨p, xs, rfl, h1, h2⟩ := tup_rr rv
  cases Reps.ints h2
  exact (cr_maxT hc).to ⟨p, ns, rfl, Same.seqT (msk_same _ _) h1, hne, fun m g1 g2 => k _ _ _ (.d (.int _)) _ Le.refl st ir_int (h m g1 g2)⟩
theorem Cl.minT (hc : X.calm = true) (hne : 0 < ns.length) (h : ∀ m, m ∈ ns → (∀ y, y ∈ ns → m ≤ y) → Q own (.d (.int m))) : Cl X F (.builtin "min") [.d (.tup (ns.map D.int))] Q own := by
  constructor
  intro ls H vs st rr Qv k
  obtain ⟨v, rfl, rv⟩ := rrs1 rr
  obtain ⟨p, xs, rfl, h1, h2⟩ := tup_rr rv
  cases Reps.ints h2
  exact (cr_minT hc).to ⟨p, ns, rfl, Same.seqT (msk_same _ _) h1, hne, fun m g1 g2 => k _ _ _ (.d (.int _)) _ Le.refl st ir_int (h m g1 g2)⟩
theorem Cl.maxL (hc : X.calm = true) (hne : 0 < ns.length) (h : ∀ m, m ∈ ns → (∀ y, y ∈ ns → y ≤ m) → Q own (.d (.int m))) : Cl X F (.builtin "max") [.d (.lst (ns.map D.int))] Q own := by
  constructor
  intro ls H vs st rr Qv k
  obtain ⟨v, rfl, rv⟩ := rrs1 rr
  obtain ⟨p, xs, rfl, h1, h2⟩ := lst_rr rv
  cases Reps.ints h2
  exact (cr_max hc).to ⟨p, ns, rfl, sq_h h1, hne, fun m g1 g2 => k _ _ _ (.d (.int _)) _ Le.refl st ir_int (h m g1 g2)⟩
theorem Cl.minL (hc : X.calm = true) (hne : 0 < ns.length) (h : ∀ m, m ∈ ns → (∀ y, y ∈ ns → m ≤ y) → Q own (.d (.int m))) : Cl X F (.builtin "min") [.d (.lst (ns.map D.int))] Q own := by
  constructor
  intro ls H vs st rr Qv k
  obtain ⟨v, rfl, rv⟩ := rrs1 rr
  obtain ⟨p, xs, rfl, h1, h2⟩ := lst_rr rv
  cases Reps.ints h2
  exact (cr_min hc).to ⟨p, ns, rfl, sq_h h1, hne, fun m g1 g2 => k _ _ _ (.d (.int _)) _ Le.refl st ir_int (h m g1 g2)⟩
theorem Cl.sortedI (h : ∀ ns' : List Int, ns'.Perm ns → ns'.Pairwise (· ≤ ·) → Q own (.d (.lst (ns'.map D.int)))) : Cl X F (.builtin "sorted") [.d (.lst (ns.map D.int))] Q own := by
  constructor
  intro ls H vs st rr Qv k
  obtain ⟨v, rfl, rv⟩ := rrs1 rr
  obtain ⟨p, xs, rfl, h1, h2⟩ := lst_rr rv
  cases Reps.ints h2
  refine (cr_sortedI).to ⟨p, ns, rfl, sq_h h1, fun ns' q g1 g2 hq => ?_⟩
  refine k _ _ _ (.d (.lst (ns'.map D.int))) _ (Le.grow (same_new hq)) (st.grow (same_new hq)) ?_ (h ns' g1 g2)
  simp only [RRep, Rep]
  exact ⟨q, _, rfl, st.seen hq, Reps.ofInts⟩
theorem reps_flat {K : PySem.W.Frag} {G : Hp} : ∀ {n : Nat} {ds : List D} {vs : List V}, Reps K G ds vs → Reps K G (List.replicate n ds).flatten (List.replicate n vs).flatten
  | 0, _, _, _ => Reps.nil
  | n + 1, ds, vs, h => by simp only [List.replicate_succ, List.flatten_cons]; exact Reps.append h (reps_flat h)
/-- [..] * n -/
theorem O2.rep (h1 : -(2 ^ 63) ≤ i) (h2 : i < 2 ^ 63) (hz : xs.length * i.toNat ≤ sizeLine) (h : Q own (.d (.lst (List.replicate i.toNat xs).flatten))) : O2 X F (.bin .Mult) (.d (.lst xs)) (.d (.int i)) Q own := by
  constructor
  intro ls H u v st rx ry Qv k
  obtain ⟨p, vs, rfl, g1, g2⟩ := lst_rr rx
  cases rr_int ry
  refine (op_rep).to ⟨p, i, vs, rfl, rfl, msk_same _ _ _ _ g1, h1, h2, by rw [← g2.length]; exact hz, fun q hq => ?_⟩
  refine k _ _ _ (.d (.lst _)) _ (Le.grow (same_new hq)) (st.grow (same_new hq)) ?_ h
  simp only [RRep, Rep]
  exact ⟨q, _, rfl, st.seen hq, Reps.mono (msk_mono (same_new hq)) (reps_flat g2)⟩
/-- t + u, the left one not empty -/
theorem O2.catT (hx : xs ≠ []) (hz : xs.length + ys.length ≤ sizeLine) (h : Q own (.d (.tup (xs ++ ys)))) : O2 X F (.bin .Add) (.d (.tup xs)) (.d (.tup ys)) Q own := by
  constructor
  intro ls H u v st rx ry Qv k
  obtain ⟨p, vs, rfl, g1, g2⟩ := tup_rs rx
  obtain ⟨p', ws, rfl, g1', g2'⟩ := tup_rr ry
  refine (op_catT).to ⟨p, p', vs, ws, rfl, rfl, .inl (.inl (msk_same _ _ _ _ g1)), Same.seqT (msk_same _ _) g1', fun z => hx ?_, by rw [← g2.length, ← g2'.length]; exact hz, fun z => ?_, fun _ q hq => ?_⟩
  · have := g2.length
    rw [z] at this
    exact List.eq_nil_of_length_eq_zero this
  · subst z
    have e : ys = [] := List.eq_nil_of_length_eq_zero g2'.length
    rw [e, List.append_nil] at h
    exact k _ _ _ (.d (.tup xs)) _ Le.refl st (by simp only [RRep, Rep]; exact ⟨p, vs, rfl, g1, g2⟩) h
  · refine k _ _ _ (.d (.tup (xs ++ ys))) _ (Le.grow (same_new hq)) (st.grow (same_new hq)) ?_ h
    simp only [RRep, Rep]
    exact ⟨q, _, rfl, st.seen hq, Reps.mono (msk_mono (same_new hq)) (Reps.append g2 g2')⟩
end
end DL

/-! Fw20: < of lists of ints; sorted by a key that is a list -/
namespace DL
open PySem PySem.Spec PyProof.Rows L2
section
variable {X : Cx}
theorem op_ltD (hu : X.A.units + 64 < cLine) : OpR X (compareOp .Lt) (fun x y H Q => ∃ d e, Dp X.K H x d ∧ Dp X.K H y e ∧ PySem.W.alike d e = true ∧ d ≠ .none ∧ d.depth ≤ 64 ∧ Q (.bl (PySem.W.dataLt d e)) H) := by
  rintro pins s σ H x y v u Q I rx ry ⟨d, e, hd, he, al, ne, dp, q⟩
  obtain ⟨as, r1⟩ := Dp.reads I d x v hd rx
  obtain ⟨bs, r2⟩ := Dp.reads I e y u he ry
  exact PySem.W.rcLt_alike d e X.A s v u as bs r1 r2 al ne (Nat.lt_of_le_of_lt (Nat.add_le_add_left (Nat.le_trans (Nat.min_le_left _ _) dp) _) hu) X.prog X.w X.xe _ ⟨.bl _, H, I, rfl, q⟩
end
theorem alike_ints (ns ms : List Int) : PySem.W.alike (.list (ns.map PyData.int)) (.list (ms.map PyData.int)) = true := by
  simp only [PySem.W.alike]; exact PySem.W.alike_ints ns ms
theorem lt_ints (ns ms : List Int) : PySem.W.dataLt (.list (ns.map PyData.int)) (.list (ms.map PyData.int)) = decide (ns < ms) := by
  rw [PySem.W.dataLt_list]; exact PySem.W.dataLt_ints ns ms
theorem dep_ints (ns : List Int) : (PyData.list (ns.map PyData.int)).depth ≤ 1 := by
  simp only [PyData.depth]; exact Nat.succ_le_succ (depAll_map (n := 0) PyData.int (fun _ => Nat.le_refl _) ns)
section
variable {X : Cx} {F : Fm} {own : List Cell} {Q : QE} {ns ms : List Int}
theorem O2.ltL (hu : X.A.units + 64 < cLine) (h : Q own (.d (.bl (decide (ns < ms))))) : O2 X F (.cmp .Lt) (.d (.lst (ns.map D.int))) (.d (.lst (ms.map D.int))) Q own := by
  constructor
  intro ls H u v st rx ry Qv k
  have d1 := dp_of rx (Enc.int.lst.pl ns)
  have d2 := dp_of ry (Enc.int.lst.pl ms)
  simp only [pyd, pyds_map] at d1 d2
  exact (op_ltD hu).to ⟨_, _, d1, d2, alike_ints ns ms, (fun z => by cases z), Nat.le_trans (dep_ints ns) (by decide), k _ _ _ (.d (.bl _)) _ Le.refl st ir_bl (by rw [lt_ints]; exact h)⟩
end
end DL
namespace KyL
open PySem PySem.Calls PyProof.Rows PySem.W
section
variable {prog : Program} {w : World} {A : Around} {E : Value → Shared → Prop} {s : Shared} {a kS : Addr} {vs : List Value} {e1 : Nat} {P : PySem.Fin → Shared → Prop} {kz : List PyData}
/-- f(x) keeps what was there; its answer reads as k, all its lists new -/
def KeyNew (k : PyData) (s1 : Shared) (v : Value) (s2 : Shared) : Prop := ∃ h' tk as, s2 = { s1 with heap := h', toks := tk } ∧ (∀ b o, s1.heap.get? b = some o → h'.get? b = some o) ∧ Reads h' v k as ∧ ∀ c ∈ as, s1.heap.get? c = none
/-- what is known of a key made earlier -/
def Kept (h : Heap) (kS a : Addr) (v : Value) (k : PyData) : Prop := ∃ as, Reads h v k as ∧ kS ∉ as ∧ a ∉ as ∧ alike k k = true
theorem rest {f : Value} {g₁ : Heap} (kp : KeepsBut a g₁ s.heap) (hkS : g₁.get? kS = none) (nk : s.heap.get? kS = some (seqObj "list" #[] 0)) (na : s.heap.get? a = some (seqObj "list" #[] e1)) (hka : kS ≠ a)
    (hlen : kz.length = vs.length) (hZ : vs.length ≤ sizeLine) (hal : AllAlike kz) (hsk : Sortable kz) (hu : ∀ d, d ∈ kz → A.units + d.depth < cLine)
    (turn : ∀ (i : Nat) (v : Value) (k : PyData), vs[i]? = some v → kz[i]? = some k → ∀ (h : Heap) (tk : Nat), KeepsBut a g₁ h → wpAny (model prog w) A (call f [v]) (KeyNew k { s with heap := h, toks := tk }) (fun _ _ => False) { s with heap := h, toks := tk })
    (fin : ∀ h' tk out c, KeepsBut a g₁ h' → h'.get? a = some (seqObj "list" (List.toArray out) c) → KeyedOut false kz vs out → P (.done (.ret .none)) { s with heap := h', toks := tk }) :
    wpAny (model prog w) A (ksk_rest a f false vs.toArray e1 (.ref kS)) P E s := by
  unfold ksk_rest
  refine wpAny_bind (wpAny_rule ?_)
  first | rw [List.forIn_toArray] | (rw [← Array.forIn_toList]; simp only [List.toList_toArray]) | rw [← Array.forIn_toList]
  refine wpAny_bind (ksk_fold (fun i s' => ∃ h' tk kA ep, s' = { s with heap := h', toks := tk } ∧ KeepsBut a g₁ h' ∧ h'.get? kS = some (seqObj "list" kA ep) ∧ h'.get? a = some (seqObj "list" #[] e1) ∧ EachIs (Kept h' kS a) kA.toList (kz.take i)) vs 0 s ⟨s.heap, s.toks, #[], 0, rfl, kp, nk, na, by rw [List.take_zero]; exact EachIs.nil⟩ ?turn ?last)
  case turn =>
    rintro j x s' hx ⟨h', tk, kA, ep, rfl, kp', nk', na', hk⟩
    simp only [Nat.zero_add] at hk ⊢
    have hj := (List.getElem?_eq_some_iff.mp hx).1
    obtain ⟨k, hkj⟩ : ∃ k, kz[j]? = some k := ⟨_, List.getElem?_eq_getElem (by omega)⟩
    have hmem := List.mem_of_getElem? hkj
    have hsz : kA.size ≤ vs.length := by have h1 := hk.length; rw [Array.length_toList, List.length_take] at h1; omega
    refine wpAny_bind (wpAny_attempt (wpAny_mono (turn j x k hx hkj h' tk kp') (fun v s'' he => ?_) fun _ _ z => z.elim))
    obtain ⟨g, tk2, as, rfl, hg, hr, hnew⟩ := he
    dsimp only at hnew ⊢
    have nk2 := hg _ _ nk'
    have na2 := hg _ _ na'
    have sb := Heap.SameBut.update g kS (Obj.mapSeq (·.push v))
    obtain ⟨c2, hc2⟩ : ∃ c2, (g.update kS (Obj.mapSeq (·.push v))).get? kS = some (seqObj "list" (kA.push v) c2) := ⟨_, get?_update_seq nk2 (·.push v)⟩
    refine wpAny_bind (listUpdate_at nk2 rfl ?_ (Nat.le_trans hsz hZ) (Nat.le_trans (Nat.le_of_eq (Array.size_push ..)) (Nat.succ_le_succ (Nat.le_trans hsz hZ))))
    have over : ∀ (u : Value) (d : PyData), Kept g kS a u d → Kept (g.update kS (Obj.mapSeq (·.push v))) kS a u d := fun u d ⟨bs, r, n1, n2, al⟩ =>
      ⟨bs, Reads.keepBut (a := kS) (fun b o hb e => (sb.2 b hb).trans e) (fun o e => by rw [nk2] at e; rw [← Option.some.inj e]) d u bs al r n1, n1, n2, al⟩
    refine wpAny_pure ⟨rfl, _, _, kA.push v, c2, rfl, (kp'.trans_all hg).same sb (.inr hkS), hc2, (sb.2 a hka.symm).trans na2, ?_⟩
    rw [show (kA.push v).toList = kA.toList ++ [v] by simp, show kz.take (j + 1) = kz.take j ++ [k] by rw [List.take_add_one, hkj]; simp]
    refine each_snoc (R := Kept (g.update kS (Obj.mapSeq (·.push v))) kS a) (over v k ⟨as, hr, fun z => ?_, fun z => ?_, hal k hmem k hmem⟩) (hk.mono fun u d ⟨bs, r, n1, n2, al⟩ => over u d ⟨bs, PyProof.Rows.Reads.keeps hg r, n1, n2, al⟩)
    · have := hnew _ z; rw [nk'] at this; cases this
    · have := hnew _ z; rw [na'] at this; cases this
  case last =>
    rintro s' ⟨h', tk, kA, ep, rfl, kp', nk', na', hk⟩
    have hk' : EachIs (fun v k => ∃ as, Reads h' v k as) kA.toList kz := by
      rw [show kz.take (0 + vs.length) = kz from List.take_of_length_le (by omega)] at hk
      exact hk.mono fun v k q => ⟨_, q.choose_spec.1⟩
    have hsz : kA.size = vs.length := by have h1 := hk'.length; rw [Array.length_toList] at h1; omega
    refine wpAny_bind (listItems_at nk' rfl ?_)
    exact keyH_end (κ := dataKind h' kz) (h₁ := g₁) kp' hkS nk' na' hka (SortsAt.data (s := { s with heap := h', toks := tk }) hk' hal hsk hu) hsz hZ fun h3 tk3 c k3 n3 => fin h3 tk3 _ c k3 n3 ⟨h', kA.toList, hal, rfl, hk'⟩
theorem tree {f : Value} {n : Nat} (ho : s.heap.get? a = some (seqObj "list" vs.toArray n)) (hlen : kz.length = vs.length) (hZ : vs.length ≤ sizeLine) (hal : AllAlike kz) (hsk : Sortable kz) (hu : ∀ d, d ∈ kz → A.units + d.depth < cLine)
    (turn : ∀ (i : Nat) (v : Value) (k : PyData), vs[i]? = some v → kz[i]? = some k → ∀ (h : Heap) (tk : Nat), KeepsBut a s.heap h → wpAny (model prog w) A (call f [v]) (KeyNew k { s with heap := h, toks := tk }) (fun _ _ => False) { s with heap := h, toks := tk })
    (fin : ∀ h' tk out c, KeepsBut a s.heap h' → h'.get? a = some (seqObj "list" (List.toArray out) c) → KeyedOut false kz vs out → P (.done (.ret .none)) { s with heap := h', toks := tk }) :
    wpAny (model prog w) A (ksk_tree a f false) P E s := by
  have ha : a < s.heap.objs.size := Heap.lt_size ho
  obtain ⟨ep, ho1⟩ : ∃ ep, (s.heap.update a (Obj.mapSeq fun _ => (#[] : Array Value))).get? a = some (seqObj "list" #[] ep) := ⟨_, get?_update_seq ho fun _ => #[]⟩
  have hsz : ((s.heap.update a (Obj.mapSeq fun _ => (#[] : Array Value))).push (seqObj "tuple" vs.toArray 0)).objs.size = s.heap.objs.size + 1 := by rw [size_push', Heap.size_update]
  unfold ksk_tree
  refine wpAny_bind (listItems_at ho rfl (wpAny_bind (listUpdate_at ho rfl ?_ (by rw [List.size_toArray]; exact hZ) (Nat.zero_le _))))
  refine wpAny_bind (seqEpoch_at ho1 rfl (wpAny_bind (wpAny_newTuple ?_ (by show vs.length ≤ _; exact hZ))))
  refine wpAny_bind (wpAny_newList (wpAny_holding ?_) (Nat.zero_le _))
  exact rest (kz := kz) (g₁ := s.heap) (s := { s with heap := ((s.heap.update a (Obj.mapSeq fun _ => (#[] : Array Value))).push (seqObj "tuple" vs.toArray 0)).push (seqObj "list" #[] 0) }) (kS := ((s.heap.update a (Obj.mapSeq fun _ => (#[] : Array Value))).push (seqObj "tuple" vs.toArray 0)).objs.size)
    (fun b o hb q => sortingHeap_old hb q) (Heap.get?_none_of_le (by rw [hsz]; exact Nat.le_succ _)) (Heap.get?_push_size _ rfl) (Heap.get?_push_of_some _ (Heap.get?_push_of_some _ ho1)) (by rw [hsz]; exact Nat.ne_of_gt (Nat.lt_succ_of_lt ha)) hlen hZ hal hsk hu turn fin
end
section
variable {prog : Program} {w : World} {A : Around} {E : Value → Shared → Prop} {s : Shared} {β : Type} {vs : List Value} {bs : List β} {R : Value → β → Prop}
theorem turns {a : Addr} {f : Value} {k : β → PyData} {g₁ : Heap} (e : EachIs R vs bs)
    (turn : ∀ (v : Value) (x : β), R v x → x ∈ bs → ∀ (h : Heap) (tk : Nat), KeepsBut a g₁ h → wpAny (model prog w) A (call f [v]) (KeyNew (k x) { s with heap := h, toks := tk }) (fun _ _ => False) { s with heap := h, toks := tk }) (i : Nat) (v : Value) (d : PyData) (hv : vs[i]? = some v) (hd : (bs.map k)[i]? = some d) (h : Heap) (tk : Nat) (kp : KeepsBut a g₁ h) :
    wpAny (model prog w) A (call f [v]) (KeyNew d { s with heap := h, toks := tk }) (fun _ _ => False) { s with heap := h, toks := tk } := by
  rw [List.getElem?_map, Option.map_eq_some_iff] at hd
  obtain ⟨x, q, rfl⟩ := hd
  exact turn v x (e.zip (v, x) (List.mem_of_getElem? (i := i) (List.getElem?_zip_eq_some.mpr ⟨hv, q⟩))) (List.mem_of_getElem? q) h tk kp
/-- sorted(xs, key=f), the keys data of any kind, their lists new -/
theorem sorted_new {l : Addr} {f : Value} {kw : List (Str × Value)} {Q : Value → Shared → Prop} (k : β → PyData) (hl : s.heap.IsList l vs.toArray) (e : EachIs R vs bs) (hal : AllAlike (bs.map k)) (hk : Sortable (bs.map k)) (hL : bs.length ≤ sizeLine)
    (hu : ∀ x, x ∈ bs → A.units + 2 + (k x).depth < cLine) (ha1 : argsOk "sorted" ⟨[.ref l], kw⟩) (ha2 : ∀ x, argsOk "list.sort" ⟨[.ref x], kw⟩) (ht : ∀ x, Builtin.«list.sort» ⟨[.ref x], kw⟩ = ksk_tree x f false)
    (turn : ∀ (v : Value) (x : β), R v x → x ∈ bs → ∀ (h : Heap) (tk : Nat), (∀ b o, s.heap.get? b = some o → h.get? b = some o) → wpAny (model prog w) A.in1.in1 (call f [v]) (KeyNew (k x) { s with heap := h, toks := tk }) (fun _ _ => False) { s with heap := h, toks := tk })
    (fin : ∀ out c h' tk, (∀ b o, s.heap.get? b = some o → h'.get? b = some o) → s.heap.get? (s.heap.objs.size + 1) = none → h'.get? (s.heap.objs.size + 1) = some (seqObj "list" (List.toArray out) c) → out.length = bs.length → EachIs R out (bs.mergeSort (dataLe false k)) → Q (.ref (s.heap.objs.size + 1)) { s with heap := h', toks := tk }) :
    wpAny (model prog w) A (call (.builtin "sorted") [.ref l] kw) Q E s := by
  have up : ∀ {g : Heap}, KeepsBut (s.heap.objs.size + 1) (copyHeap s.heap vs) g → ∀ b o, s.heap.get? b = some o → g.get? b = some o := fun {g} kp b o q => kp b o (Nat.ne_of_lt (Nat.lt_succ_of_lt (Heap.lt_size q))) (copyHeap_old q)
  refine sorted_of_sort hl (by rw [e.length]; exact hL) ha1 ha2 fun E' => ?_
  rw [ht]
  have hll : (bs.map k).length = vs.length := by rw [List.length_map]; exact e.length.symm
  exact tree (kz := bs.map k) (s := { s with heap := copyHeap s.heap vs }) (copyHeap_at s.heap vs) hll (by rw [e.length]; exact hL) hal hk (bound_map (A := A.in1.in1) hu) (turns (s := { s with heap := copyHeap s.heap vs }) e fun v x hR hx h tk kp => turn v x hR hx h tk (up kp))
    fun h' tk out c kp hD ko => ⟨rfl, fin out c h' tk (up kp) (Heap.get?_none_of_le (Nat.le_succ _)) hD ((ko.length hll).trans e.length) (keyedOut_each k ko e)⟩
end
end KyL

/-! Fw21: sorted by a key that is a call: what is tracked stays tracked -/
namespace KyI
open PySem PySem.Spec PySem.Calls PyProof.Rows PySem.W L2 DL
/-- f(v): the answer reads as k; the tracked part grows, what is not tracked stays -/
def KeyCall (X : Cx) (pins : List (Addr × Obj)) (σ : L2.St) (H : Hp) (f v : Value) (k : PyData) : Prop :=
  ∀ (s1 : Shared) (H1 : Hp), Inv X pins σ H1 s1 → Same H H1 → wpAny (model X.prog X.w) X.A.in1.in1 (call f [v])
    (fun u s2 => ∃ y H2, RelV y u ∧ Inv X pins σ H2 s2 ∧ Same H1 H2 ∧ Dp X.K H2 y k ∧ ∀ b o, s1.heap.get? b = some o → H1 b = none → b ∉ frs X.stack → s2.heap.get? b = some o ∧ H2 b = none) (fun _ _ => False) s1
mutual
theorem dp_same {K : PySem.W.Frag} {H H' : Hp} (e : Same H H') : ∀ {v : V} {d : PyData}, Dp K H v d → Dp K H' v d
  | _, _, h => by
    cases h <;> first | constructor | skip
    all_goals first | exact e.seq (by assumption) | exact Same.seqT e (by assumption) | exact dps_same e (by assumption) | skip
theorem dps_same {K : PySem.W.Frag} {H H' : Hp} (e : Same H H') : ∀ {vs : List V} {ds : List PyData}, DpAll K H vs ds → DpAll K H' vs ds
  | _, _, h => by
    cases h <;> constructor
    all_goals first | exact dp_same e (by assumption) | exact dps_same e (by assumption)
end
/-- one address -/
def one (a : Addr) : Hp := fun b => if b = a then some (.lst []) else none
def KeyIs (K : PySem.W.Frag) (H : Hp) (v : Value) (d : PyData) : Prop := ∃ y, RelV y v ∧ Dp K H y d
theorem frs_new {X : Cx} {pins : List (Addr × Obj)} {σ : L2.St} {H : Hp} {s : Shared} (I : Inv X pins σ H s) {b : Addr} (h : s.heap.objs.size ≤ b) : b ∉ frs X.stack := fun z => by
  rcases List.mem_cons.mp (I.stkSub _ z) with e | e
  · exact absurd (Nat.lt_of_lt_of_le I.lt (e ▸ h)) (Nat.lt_irrefl _)
  · exact I.nofs h e
section
variable {X : Cx} {pins : List (Addr × Obj)} {σ : L2.St} {H H1 : Hp} {s0 s : Shared} {a kS : Addr} {E : Value → Shared → Prop} {vs : List Value} {e1 : Nat} {P : PySem.Fin → Shared → Prop} {kz : List PyData} {f : Value}
theorem go (I0 : Inv X pins σ H s0) (ha : s0.heap.objs.size ≤ a) (hk0 : s0.heap.objs.size ≤ kS) (I : Inv X pins σ H1 s) (sm : Same H H1) (nkH : H1 kS = none) (naH : H1 a = none) (nk : s.heap.get? kS = some (seqObj "list" #[] 0)) (na : s.heap.get? a = some (seqObj "list" #[] e1)) (hka : kS ≠ a)
    (hlen : kz.length = vs.length) (hZ : vs.length ≤ sizeLine) (hal : AllAlike kz) (hsk : Sortable kz) (hu : ∀ d, d ∈ kz → X.A.in1.in1.units + d.depth < cLine)
    (turn : ∀ (i : Nat) (v : Value) (k : PyData), vs[i]? = some v → kz[i]? = some k → KeyCall X pins σ H f v k)
    (fin : ∀ s2 H2 out c, Inv X pins σ H2 s2 → Same H1 H2 → H2 a = none → s2.heap.get? a = some (seqObj "list" (List.toArray out) c) → KeyedOut false kz vs out → P (.done (.ret .none)) s2) :
    wpAny (model X.prog X.w) X.A.in1.in1 (ksk_rest a f false vs.toArray e1 (.ref kS)) P E s := by
  unfold ksk_rest
  refine wpAny_bind (wpAny_rule ?_)
  first | rw [List.forIn_toArray] | (rw [← Array.forIn_toList]; simp only [List.toList_toArray]) | rw [← Array.forIn_toList]
  refine wpAny_bind (ksk_fold (fun i s' => ∃ H' kA ep, Inv X pins σ H' s' ∧ Same H1 H' ∧ H' kS = none ∧ H' a = none ∧ s'.heap.get? kS = some (seqObj "list" kA ep) ∧ s'.heap.get? a = some (seqObj "list" #[] e1) ∧ EachIs (KeyIs X.K H') kA.toList (kz.take i)) vs 0 s
    ⟨H1, #[], 0, I, Same.refl _, nkH, naH, nk, na, by rw [List.take_zero]; exact EachIs.nil⟩ ?again ?over)
  case again =>
    rintro j x s' hx ⟨H', kA, ep, I', sm', nkH', naH', nk', na', hk⟩
    simp only [Nat.zero_add] at hk ⊢
    have hj := (List.getElem?_eq_some_iff.mp hx).1
    obtain ⟨k, hkj⟩ : ∃ k, kz[j]? = some k := ⟨_, List.getElem?_eq_getElem (by omega)⟩
    have hsz : kA.size ≤ vs.length := by have h1 := hk.length; rw [Array.length_toList, List.length_take] at h1; omega
    refine wpAny_bind (wpAny_attempt (wpAny_mono (turn j x k hx hkj s' H' I' (sm.trans sm')) (fun v s2 he => ?_) fun _ _ z => z.elim))
    obtain ⟨y, H2, ry, I2, sm2, dy, un⟩ := he
    dsimp only
    obtain ⟨nk2, nkH2⟩ := un _ _ nk' nkH' (frs_new I0 hk0)
    obtain ⟨na2, naH2⟩ := un _ _ na' naH' (frs_new I0 ha)
    have sb := Heap.SameBut.update s2.heap kS (Obj.mapSeq (·.push v))
    obtain ⟨c2, hc2⟩ : ∃ c2, (s2.heap.update kS (Obj.mapSeq (·.push v))).get? kS = some (seqObj "list" (kA.push v) c2) := ⟨_, get?_update_seq nk2 (·.push v)⟩
    refine wpAny_bind (listUpdate_at nk2 rfl ?_ (Nat.le_trans hsz hZ) (Nat.le_trans (Nat.le_of_eq (Array.size_push ..)) (Nat.succ_le_succ (Nat.le_trans hsz hZ))))
    refine wpAny_pure ⟨rfl, H2, kA.push v, c2, ?_, sm'.trans sm2, nkH2, naH2, hc2, (sb.2 a hka.symm).trans na2, ?_⟩
    · exact I2.turnedL (t' := s2.toks) (ch := [kS]) (fun b o hb e => (sb.2 b (fun z => hb (by simp [z]))).trans e) (fun b hb => by
        rw [List.mem_singleton] at hb
        subst hb
        exact I0.fpOk hk0 nkH2)
    · rw [show (kA.push v).toList = kA.toList ++ [v] by simp, show kz.take (j + 1) = kz.take j ++ [k] by rw [List.take_add_one, hkj]; simp]
      exact each_snoc (R := KeyIs X.K H2) ⟨y, ry, dy⟩ (hk.mono fun u d ⟨z, r, q⟩ => ⟨z, r, dp_same sm2 q⟩)
  case over =>
    rintro s' ⟨H', kA, ep, I', sm', nkH', naH', nk', na', hk⟩
    have hk' : EachIs (fun v k => ∃ as, Reads s'.heap v k as) kA.toList kz := by
      rw [show kz.take (0 + vs.length) = kz from List.take_of_length_le (by omega)] at hk
      exact hk.mono fun v k ⟨y, r, q⟩ => Dp.reads I' k y v q r
    have hsz : kA.size = vs.length := by have h1 := hk'.length; rw [Array.length_toList] at h1; omega
    refine wpAny_bind (listItems_at nk' rfl ?_)
    have hid : (hidT s'.heap (one kS)).get? kS = none := by
      cases q : (hidT s'.heap (one kS)).get? kS with
      | none => rfl
      | some o => have := (of_hidT q).2; unfold one at this; rw [if_pos rfl] at this; cases this
    refine keyH_end (κ := dataKind s'.heap kz) (h₁ := hidT s'.heap (one kS)) (fun b o _ e => (of_hidT e).1) hid nk' na' hka (SortsAt.data (s := s') hk' hal hsk hu) hsz hZ fun h3 tk3 c k3 n3 => ?_
    refine fin _ H' _ c (I'.turnedL (t' := tk3) (ch := [kS, a]) (fun b o hb e => k3 b o (fun z => hb (by simp [z])) (hidT_get e (by unfold one; rw [if_neg (fun z => hb (by simp [z]))]))) (fun b hb => ?_)) sm' naH' n3 ⟨s'.heap, kA.toList, hal, rfl, hk'⟩
    rcases List.mem_cons.mp hb with rfl | hb
    · exact I0.fpOk hk0 nkH'
    · rw [List.mem_singleton] at hb
      subst hb
      exact I0.fpOk ha naH'
end
section
variable {X : Cx} {pins : List (Addr × Obj)} {σ : L2.St} {H : Hp} {s : Shared} {E : Value → Shared → Prop} {β : Type}
/-- sorted(xs, key=f) -/
theorem run {l : Addr} {f : Value} {kw : List (Str × Value)} {xs : List V} {bs : List β} {S : V → β → Prop} {Q : VK} (k : β → PyData) (I : Inv X pins σ H s) (hs : SqL X.K H l xs) (e : EachIs S xs bs) (hal : AllAlike (bs.map k)) (hsk : Sortable (bs.map k))
    (hu : ∀ x, x ∈ bs → X.A.units + 2 + (k x).depth < cLine) (ha1 : argsOk "sorted" ⟨[.ref l], kw⟩) (ha2 : ∀ x, argsOk "list.sort" ⟨[.ref x], kw⟩) (ht : ∀ x, Builtin.«list.sort» ⟨[.ref x], kw⟩ = ksk_tree x f false)
    (turn : ∀ (v : Value) (x : V) (b : β), RelV x v → S x b → b ∈ bs → KeyCall X pins σ H f v (k b))
    (fin : ∀ H' p ys, Same H H' → H' p = none → EachIs S ys (bs.mergeSort (dataLe false k)) → Q (.ref p) (upd H' p (.lst ys))) :
    wpAny (model X.prog X.w) X.A (call (.builtin "sorted") [.ref l] kw) (EP X pins σ Q) E s := by
  obtain ⟨its, rv, hl, hz⟩ := I.list hs
  have hE : EachIs (fun v b => ∃ x, RelV x v ∧ S x b) its bs := by
    clear hl hz hs hal hsk hu turn fin
    induction rv generalizing bs with
    | nil => cases e; exact .nil
    | cons r _ ih => cases e with
      | cons h t => exact .cons ⟨_, r, h⟩ (ih t)
  have hL : its.length ≤ sizeLine := by rw [← rv.length]; exact hz
  have hll : (bs.map k).length = its.length := by rw [List.length_map]; exact hE.length.symm
  refine sorted_of_sort hl.isList hL ha1 ha2 fun E' => ?_
  rw [ht]
  have ho := copyHeap_at s.heap its
  have haS : s.heap.objs.size + 1 < (copyHeap s.heap its).objs.size := Heap.lt_size ho
  obtain ⟨ep, ho1⟩ : ∃ ep, ((copyHeap s.heap its).update (s.heap.objs.size + 1) (Obj.mapSeq fun _ => (#[] : Array Value))).get? (s.heap.objs.size + 1) = some (seqObj "list" #[] ep) := ⟨_, get?_update_seq ho fun _ => #[]⟩
  have hsz : (((copyHeap s.heap its).update (s.heap.objs.size + 1) (Obj.mapSeq fun _ => (#[] : Array Value))).push (seqObj "tuple" its.toArray 0)).objs.size = (copyHeap s.heap its).objs.size + 1 := by rw [size_push', Heap.size_update]
  unfold ksk_tree
  refine wpAny_bind (listItems_at ho rfl (wpAny_bind (listUpdate_at ho rfl ?_ (by rw [List.size_toArray]; exact hL) (Nat.zero_le _))))
  refine wpAny_bind (seqEpoch_at ho1 rfl (wpAny_bind (wpAny_newTuple ?_ (by show its.length ≤ _; exact hL))))
  refine wpAny_bind (wpAny_newList (wpAny_holding ?_) (Nat.zero_le _))
  have sb := Heap.SameBut.update (copyHeap s.heap its) (s.heap.objs.size + 1) (Obj.mapSeq fun _ => (#[] : Array Value))
  have kp : ∀ b o, s.heap.get? b = some o → (((((copyHeap s.heap its).update (s.heap.objs.size + 1) (Obj.mapSeq fun _ => (#[] : Array Value))).push (seqObj "tuple" its.toArray 0)).push (seqObj "list" #[] 0)).get? b = some o) := fun b o q =>
    Heap.get?_push_of_some _ (Heap.get?_push_of_some _ ((sb.2 b (Nat.ne_of_lt (Nat.lt_succ_of_lt (Heap.lt_size q)))).trans (copyHeap_old q)))
  have I1 : Inv X pins σ H { s with heap := ((((copyHeap s.heap its).update (s.heap.objs.size + 1) (Obj.mapSeq fun _ => (#[] : Array Value))).push (seqObj "tuple" its.toArray 0)).push (seqObj "list" #[] 0)), toks := s.toks } := I.kept kp
  have hkS : s.heap.objs.size + 1 < (((copyHeap s.heap its).update (s.heap.objs.size + 1) (Obj.mapSeq fun _ => (#[] : Array Value))).push (seqObj "tuple" its.toArray 0)).objs.size := by rw [hsz]; exact Nat.lt_succ_of_lt haS
  refine go (f := f) (kz := bs.map k) (H := H) (H1 := H) (s0 := s) (kS := (((copyHeap s.heap its).update (s.heap.objs.size + 1) (Obj.mapSeq fun _ => (#[] : Array Value))).push (seqObj "tuple" its.toArray 0)).objs.size) I (Nat.le_succ _) (Nat.le_of_lt (Nat.lt_of_succ_lt hkS)) I1 (Same.refl _) (I.hok.fresh (Nat.le_of_lt (Nat.lt_of_succ_lt hkS))) (I.hok.fresh (Nat.le_succ _))
    (Heap.get?_push_size _ rfl) (Heap.get?_push_of_some _ (Heap.get?_push_of_some _ ho1)) (Nat.ne_of_gt hkS) hll hL hal hsk (bound_map (A := X.A.in1.in1) hu) (fun i v d hv hd => ?_) (fun s2 H2 out c I2 sm na n2 ko => ⟨rfl, ?_⟩)
  · rw [List.getElem?_map, Option.map_eq_some_iff] at hd
    obtain ⟨x, q, rfl⟩ := hd
    obtain ⟨y, ry, hy⟩ := hE.zip (v, x) (List.mem_of_getElem? (i := i) (List.getElem?_zip_eq_some.mpr ⟨hv, q⟩))
    exact turn v y x ry hy (List.mem_of_getElem? q)
  · have eo := keyedOut_each k ko hE
    obtain ⟨ys, ry, ey⟩ : ∃ ys, Vals ys out ∧ EachIs S ys (bs.mergeSort (dataLe false k)) := by
      generalize bs.mergeSort (dataLe false k) = cs at eo
      clear ko n2
      induction eo with
      | nil => exact ⟨[], .nil, .nil⟩
      | cons h _ ih =>
        obtain ⟨y, r, q⟩ := h
        obtain ⟨ys, a1, a2⟩ := ih
        exact ⟨y :: ys, .cons r a1, .cons q a2⟩
    have hlo : ys.length ≤ sizeLine := by
      have := ko.length hll
      have := ry.length
      omega
    have I3 := I2.take (t' := s2.toks) (it := s.heap.objs.size + 1) (o := .lst ys) (fun _ _ _ q => q) (I.fpOk (Nat.le_succ _) na) ⟨hlo, out, c, ry, n2⟩
    exact ⟨.ref _, _, I3, rfl, fin H2 _ ys sm na ey⟩
end
end KyI

/-! Fw22: sorted(xs, key=f) with f a def of the module, or a lambda of one parameter that is made there -/
namespace DL
open PySem PySem.Spec PyProof.Rows L2 LamX NdefX KyI
/-! ### the lambda's object -/
def LamO (f : Addr) (F : NF) (be : Expr) : HO := .ext fun h => ∃ pm ctv, h.get? f = some (PySem.W.kla_obj "<lambda>" F.qual F.params be F.scope F.cl pm F.c ctv)
theorem lamO_at {P : Program} {w : World} {H : Hp} {h : Heap} {f : Addr} {F : NF} {be : Expr} (hok : HOk P w H h) (e : H f = some (LamO f F be)) : ∃ pm ctv, h.get? f = some (PySem.W.kla_obj "<lambda>" F.qual F.params be F.scope F.cl pm F.c ctv) := (hok f _ e).1
section
variable {X : Cx} {pins : List (Addr × Obj)} {σ : L2.St} {H : Hp} {s : Shared}
theorem inv_lam {F : NF} {be : Expr} {t' : Nat} {pm ctv : Value} (I : Inv X pins σ H s) : Inv X pins σ (upd H s.heap.objs.size (LamO s.heap.objs.size F be)) { s with heap := s.heap.push (PySem.W.kla_obj "<lambda>" F.qual F.params be F.scope F.cl pm F.c ctv), toks := t' } := by
  have e : (s.heap.push (PySem.W.kla_obj "<lambda>" F.qual F.params be F.scope F.cl pm F.c ctv)).get? s.heap.objs.size = some (PySem.W.kla_obj "<lambda>" F.qual F.params be F.scope F.cl pm F.c ctv) := Heap.get?_push_size _ rfl
  exact I.laid (a := s.heap.objs.size) (fun _ _ q => Heap.get?_push_of_some _ q) (Nat.le_refl _) ⟨⟨pm, ctv, e⟩, ⟨_, e⟩, fun _ _ ⟨p, t, z⟩ st => ⟨p, t, st _ z⟩⟩
/-- all but the table stays; nothing that was free is said to have been there -/
structure Grown (P : Addr) (H H1 : Hp) : Prop where
  up : ∀ b o, b ≠ P → H b = some o → H1 b = some o
abbrev lamF (X : Cx) (params : Arguments) (scope : Scope) (c' : Addr) : NF := ⟨"<lambda>", X.env.qual ++ "<lambda>", params, [], scope, cloFrom X.env.cells scope.names [], c'⟩
/-- the table's code objects are as V says -/
def TabV (H : Hp) (P : Addr) (q : Str) (V : Addr → Prop) : Prop := ∃ ps : Array Value, H P = some (.tbl ps) ∧ TriplesOk ps.toList ∧ ∀ (pos : Pos) (cv : Value), codeAmong pos ps.toList = some cv → ∃ c, cv = .ref c ∧ H c = some (CodeO c q) ∧ V c
theorem TabV.ext {H H' : Hp} {P : Addr} {q : Str} {V : Addr → Prop} (t : TabV H P q V) (e : ∀ b o, H b = some o → H' b = some o) : TabV H' P q V := by
  obtain ⟨ps, h1, h2, h3⟩ := t
  exact ⟨ps, e _ _ h1, h2, fun pos cv hc => (h3 pos cv hc).imp fun c z => ⟨z.1, e _ _ z.2.1, z.2.2⟩⟩
theorem lam_new {V : Addr → Prop} {c P : Addr} {params : Arguments} {body : Expr} {scope : Scope} {pos : Pos} {E : Value → Shared → Prop} {Q : Value → Shared → Prop} (I : Inv X pins σ H s) (TB : TabB X.base X.mg c P) (hcode : X.env.code = .ref c) (hT : TabV H P (X.env.qual ++ "<lambda>") V) (hV : ∀ b, H b = none → V b)
    (hdef : defaultsOf params X.env = ([], [])) (hfree : ∀ y ∈ scope.names, y.2 = .free → ∃ c, X.env.cells.lookup y.1 = some c)
    (h : ∀ (f c' : Addr) (H1 : Hp) (s' : Shared), Inv X pins σ H1 s' → Grown P H H1 → TabV H1 P (X.env.qual ++ "<lambda>") V → H1 f = some (LamO f (lamF X params scope c') body) → H1 c' = some (CodeO c' (X.env.qual ++ "<lambda>")) → Q (.ref f) s') :
    wpAny (model X.prog X.w) X.A (eval (.Lambda params body scope pos) X.env) Q E s := by
  obtain ⟨ps, hP, ht, ha⟩ := hT
  refine PySem.W.kla_eval hdef ?_
  have bb := TB.bm.keeps I.bk
  have hP' : s.heap.get? P = some (PySem.W.tabObj ps) := I.hok P _ hP
  -- the object at the heap's end, from a state in which the code object is known
  have last : ∀ (c' : Addr) (H0 : Hp) (h' : Heap) (tk : Nat) (pm ctv : Value), Inv X pins σ H0 { s with heap := h', toks := tk } → Grown P H H0 → TabV H0 P (X.env.qual ++ "<lambda>") V → H0 c' = some (CodeO c' (X.env.qual ++ "<lambda>")) →
      Q (.ref h'.objs.size) { s with heap := h'.push (PySem.W.kla_obj "<lambda>" (X.env.qual ++ "<lambda>") params body scope (cloFrom X.env.cells scope.names []) pm c' ctv), toks := tk } := by
    intro c' H0 h' tk pm ctv I0 g0 t0 k0
    have nF : H0 h'.objs.size = none := I0.hok.fresh (Nat.le_refl _)
    have st : ∀ b o, H0 b = some o → upd H0 h'.objs.size (LamO h'.objs.size (lamF X params scope c') body) b = some o := fun b o e => by rw [upd_ne (ne_of_none e nF)]; exact e
    exact h h'.objs.size c' _ _ (inv_lam (F := lamF X params scope c') (be := body) (t' := tk) (pm := pm) (ctv := ctv) I0) ⟨fun b o hb e => st b o (g0.up b o hb e)⟩ (t0.ext st) upd_same (st _ _ k0)
  cases hc : codeAmong pos ps.toList with
  | some cv =>
    obtain ⟨c', rfl, hco, _⟩ := ha pos cv hc
    exact PySem.W.kla_makeFunctionHit (mg := X.mg) (c := c) (P := P) (ps := ps) (closure_ok hfree) I.ok.glob (I.mod.glob.keeps I.bk) hcode (TB.code.keeps I.bk) hP' ht hc bb fun ctv h' tk hx hsz =>
      last c' H h' tk _ ctv (I.kept hx) ⟨fun _ _ _ e => e⟩ ⟨ps, hP, ht, ha⟩ hco
  | none =>
    refine PySem.W.kla_makeFunction (mg := X.mg) (c := c) (P := P) (ps := ps) (closure_ok hfree) I.ok.glob (I.mod.glob.keeps I.bk) hcode (TB.code.keeps I.bk) hP' ht hc TB.gP bb fun c' ctv h' tk hx hge hlt hrec htb => ?_
    obtain ⟨_, oc, vs, t, e2, hoc, hd, hv⟩ := hrec
    cases e2
    have nC : H c' = none := I.hok.fresh hge
    have g : Grown P H (upd (upd H P (.tbl (ps ++ #[rawInt pos.line, rawInt pos.col, .ref c']))) c' (CodeO c' (X.env.qual ++ "<lambda>"))) := ⟨fun b o hb e => by rw [upd_ne (ne_of_none e nC), upd_ne hb]; exact e⟩
    have eL : (ps ++ #[rawInt pos.line, rawInt pos.col, .ref c']).toList = ps.toList ++ [rawInt pos.line, rawInt pos.col, .ref c'] := by simp
    refine last c' _ h' tk _ ctv (inv_table (t' := tk) (more := #[rawInt pos.line, rawInt pos.col, .ref c']) (h' := h') I hP (fun b o hb e => hx b o hb e) htb hge ⟨oc, vs, t, hoc, hd, hv⟩) g ⟨_, by rw [upd_ne (ne_of_none hP nC), upd_same], by rw [eL]; exact PySem.TriplesOk_snoc _ _ _ _ ht, fun p' cv hcv => ?_⟩ upd_same
    rw [eL] at hcv
    rcases among_app _ ht hcv with z | z
    · obtain ⟨c0, e1, e2, e3⟩ := ha p' cv z
      refine ⟨c0, e1, g.up _ _ (fun z => ?_) e2, e3⟩
      rw [z, hP] at e2
      exact codeO_ne ps (Option.some.inj e2).symm
    · exact ⟨c', z, upd_same, hV _ nC⟩
end
/-! ### the lambda called -/
section
variable {P : Program} {w : World} {K : PySem.W.Frag} {mg : Str → Option Value} {base : Heap} {N fr : List Str} {y : Str} {F : NF} {f : Addr} {be : Expr} {k : Nat}
theorem lam_run (S : NScope N [y] fr F.scope) (hb : ∀ (pm ctv : Value) (u : Value), bindArgs (PySem.W.kla_fn "<lambda>" F.qual F.params be F.scope F.cl pm (.ref F.c) ctv) ⟨[u], []⟩ = pure [(y, u)])
    {A : Around} {outer : List Env} {s : Shared} {H : Hp} {u : Value} {v : V} {ws : List (Option V)} {Q : VK} (hr : Room (k + 1) A) (e0 : Env0 P w K mg base A outer s H) (hf : H f = some (LamO f F be)) (hc : H F.c = some (CodeO F.c F.qual)) (C : CellsAt F.cl fr ws s.heap H) (r : RelV v u)
    (body : Room k (A.deeper (envF F f s.heap.objs.size)) → we (ncx CX0 P w K mg base N F f A outer s H E0) be (startF N [v] ws) H Q) : codeAny (model P w) A (.call (.ref f) ⟨[u], []⟩) (CR CX0 outer P w H s Q E0) s := by
  have lim : s.heap.NoLimit := e0.mod.nolimit.keeps fun b o e => (e0.bs b o e).1
  obtain ⟨pm, ctv, ho⟩ := lamO_at e0.hok hf
  refine PySem.W.kla_callFunE hr.depth ho rfl S.co S.gen rfl (codeO_at e0.hok hc) ?_
  rw [hb pm ctv u]
  refine wpAny_pure (wpAny_newFunctionEnv S.nocell (fun z hz => ?_) (fun h₁ hns hsb => ⟨lim.fresh _ hsb, ?_⟩) S.kind)
  · rw [List.mem_singleton] at hz
    subst hz
    exact S.par y (by simp)
  · show codeAny _ _ (.expr be (envF F f s.heap.objs.size)) _ _
    have kp : ∀ b o, s.heap.get? b = some o → h₁.get? b = some o := fun b o e => hsb.extBut b o (Nat.ne_of_lt (Heap.lt_size e)) (Heap.get?_push_of_some _ e)
    have J : Inv (ncx CX0 P w K mg base N F f A outer s H E0) [] (startF N [v] ws) H { s with heap := h₁, toks := s.toks + 1 } := inv_startN (us := [u]) S hr.hd e0 rfl (.cons r .nil) C hns kp
    refine PySem.W.kla_codeExpr (wpAny_mono (body (hr.deeper _) [] _ J) (fun v s' hq => ?_) fun e s' hq => hq)
    obtain ⟨w', H', J', rv, q⟩ := hq
    exact ⟨w', H', J'.os, J'.bare, J'.base, J'.hok, rv, q⟩
end
section
variable {X : Cx} {pins : List (Addr × Obj)} {σ : L2.St} {H H1 : Hp} {s s1 : Shared} {f : Addr} {v : Value} {key : PyData}
/-- a call's end, for the sorting -/
theorem key_end (I1 : Inv X pins σ H1 s1) {us : List Value} {A : Around} (h : codeAny (model X.prog X.w) A (.call (.ref f) ⟨us, []⟩) (CR CX0 X.stack X.prog X.w H1 s1 (fun y H2 => Same H1 H2 ∧ Dp X.K H2 y key) E0) s1) : wpAny (model X.prog X.w) A (call (.ref f) us)
    (fun u s2 => ∃ y H2, RelV y u ∧ Inv X pins σ H2 s2 ∧ Same H1 H2 ∧ Dp X.K H2 y key ∧ ∀ b o, s1.heap.get? b = some o → H1 b = none → b ∉ frs X.stack → s2.heap.get? b = some o ∧ H2 b = none) (fun _ _ => False) s1 := by
  refine wpAny_call (codeAny_mono h fun r s' hq => ?_)
  cases r with
  | error e => exact (show False from hq).elim
  | ok fl =>
    cases fl with
    | ret u =>
      obtain ⟨y, H2, os, bare, un, hok, rv, sm, dp⟩ := hq
      exact ⟨y, H2, rv, I1.call' (ch := []) os un hok bare (fun b z => absurd z (by simp)), sm, dp, fun b o e n nf => ⟨un.keep b o e n nf (by simp), un.free b o e n (by simp)⟩⟩
    | next => exact False.elim hq
    | brk => exact False.elim hq
    | cont => exact False.elim hq
/-- the key is a def of the module -/
theorem key_def {k : Nat} {fd : FuncData} {ps : List Str} {pre : List D → Prop} {post : List D → D → Prop} {S : List Addr} {d : D} {x : V} (G : FnOk X.prog X.w X.K X.mg X.base CX0 k f fd ps (spF X.K pre post)) (hr : Room (k + 2) X.A) (hb : Binds X.K fd ps []) (hid : ∀ b ∈ S, Hid (H b))
    (rx : RelV x v) (rd : Rep X.K (msk S H) d x) (hp : pre [d]) (hq : ∀ e, post [d] e → plain e = true ∧ pyd e = key) : KeyCall X pins σ H (.ref f) v key := by
  intro s1 H1 I1 sm
  have hs : spF X.K pre post [x] H1 (fun y H2 => Same H1 H2 ∧ Dp X.K H2 y key) E0 := by
    refine ⟨S, [d], fun b hb => (hid b hb).up (sm b), Reps.cons (Rep.mono (msk_mono sm) rd) Reps.nil, hp, fun v' H' e sm' re pe => ⟨sm', ?_⟩⟩
    obtain ⟨p1, p2⟩ := hq e pe
    rw [← p2]
    exact dp_of re p1
  exact key_end I1 (G.run X.A.in1.in1 X.stack s1 H1 ⟨[v], []⟩ [v] [x] _ E0 hr.in1.in1 I1.env0.in1.in1 (hb s1 [v] I1.kIn (G.len _ _ _ _ hs)) (.cons rx .nil) hs)
end
end DL

/-! Fw23: sorted(e, key=..) over data -/
namespace DL
open PySem PySem.Spec PyProof.Rows L2 LamX NdefX KyI
theorem each_of {K : PySem.W.Frag} {G : Hp} : ∀ {ds : List D} {xs : List V}, Reps K G ds xs → PySem.W.EachIs (fun x d => Rep K G d x) xs ds
  | [], _, h => by simp only [Reps] at h; subst h; exact .nil
  | d :: ds, _, h => by
    simp only [Reps] at h
    obtain ⟨x, r, rfl, h2, h3⟩ := h
    exact .cons h2 (each_of h3)
theorem reps_of {K : PySem.W.Frag} {G : Hp} {xs : List V} {ds : List D} (h : PySem.W.EachIs (fun x d => Rep K G d x) xs ds) : Reps K G ds xs := by
  induction h with
  | nil => exact Reps.nil
  | cons h _ ih => exact Reps.cons h ih
/-- what the keys are -/
structure Keys (X : Cx) (kf : D → PyData) (ds : List D) : Prop where
  al : PySem.W.AllAlike (ds.map kf)
  so : PySem.W.Sortable (ds.map kf)
  dp : ∀ d ∈ ds, X.A.units + 2 + (kf d).depth < cLine
section
variable {X : Cx} {F : Fm} {own : List Cell} {ρ : Ro} {Q : QE} {e : Expr} {pos p p2 p3 lpos : Pos} {kf : D → PyData}
/-- a new list, as data or as an own cell -/
def Out (Q : QE) (nw : Bool) (own : List Cell) (ds : List D) : Prop := if nw = true then Q (own ++ [.lst (ds.map R.d)]) (.c own.length) else Q own (.d (.lst ds))
/-- the sorting itself, the key's object known -/
theorem sort_end {pins : List (Addr × Obj)} {σ : L2.St} {s : Shared} {ls : List Addr} {H : Hp} {ds : List D} {v : V} {u : Value} {f : Addr} {Qv : VK} (I : Inv X pins σ H s) (st : St0 X.K F ls own H) (rv : RRep X.K ls (F.g ls own H) (.d (.lst ds)) v) (ru : RelV v u) (ks : Keys X kf ds)
    (turn : ∀ (v : Value) (x : V) (d : D), RelV x v → Rep X.K (F.g ls own H) d x → d ∈ ds → KeyCall X pins σ H (.ref f) v (kf d)) (k : KV' X F ls own H Q Qv) (nw : Bool) (q : Out Q nw own (ds.mergeSort (PySem.W.dataLe false kf))) :
    wpAny (model X.prog X.w) X.A (call (.builtin "sorted") [u] [(Str.ofString "key", .ref f)]) (EP X pins σ Qv) X.xe s := by
  obtain ⟨l, xs, rfl, h1, h2⟩ := lst_rr rv
  obtain rfl : u = Value.ref l := ru
  refine KyI.run (S := fun x d => Rep X.K (F.g ls own H) d x) kf I (sq_h h1) (each_of h2) ks.al ks.so ks.dp (ksk_s1 _ _) (fun _ => ksk_l1 _ _) (fun _ => ksk_t1 _ _) (fun v x d r1 r2 hm => turn v x d r1 r2 hm) fun H' p ys sm hp e => ?_
  have sm2 : Same H (upd H' p (.lst ys)) := sm.trans (same_new hp)
  unfold Out at q
  cases nw with
  | true =>
    have hp0 : H p = none := by
      cases e : H p with
      | none => rfl
      | some o => rw [sm p o e] at hp; cases hp
    have z := st0_adopt (c := .lst ((ds.mergeSort (PySem.W.dataLe false kf)).map R.d)) st sm2 hp0 (fun z => by cases z) ⟨ys, upd_same, RReps.ofD (Reps.mono (fun b o eb => ?_) (reps_of e))⟩
    · exact k _ _ _ (.c own.length) _ z.2 z.1 ⟨p, by rw [← st.len]; simp, rfl⟩ (by simpa using q)
    · have hb : b ≠ p := fun z => by
        rw [z] at eb
        have := msk_same _ _ _ _ eb
        rw [hp0] at this; cases this
      have eb : msk (F.S0 ++ live ls own) H b = some o := eb
      unfold msk at eb ⊢
      split at eb
      · cases eb
      · rename_i hn
        rw [if_neg (by rw [List.mem_append, List.mem_singleton]; exact fun z => z.elim hn hb)]
        exact sm2 b o eb
  | false =>
  replace q : Q own (.d (.lst (ds.mergeSort (PySem.W.dataLe false kf)))) := by simpa using q
  refine k ls own _ (.d (.lst (ds.mergeSort (PySem.W.dataLe false kf)))) _ (Le.grow sm2) (st.grow sm2) ?_ q
  simp only [RRep, Rep]
  have hid : p ∉ F.S0 ++ live ls own := fun z => (Hid.up (sm p) (st.hid p z)).ne hp
  refine ⟨p, ys, rfl, ?_, Reps.mono (msk_mono sm2) (reps_of e)⟩
  show msk (F.S0 ++ live ls own) _ p = _
  rw [msk_out hid, upd_same]
theorem arg1 {Qe : QE} (h : E X F e Qe own ρ) (hst : starEach [e] X.env = (false, eval e X.env) :: starEach [] X.env) {ls : List Addr} {σ : L2.St} {H : Hp} (st : St0 X.K F ls own H) (sr : SRep X.K ls (F.g ls own H) ρ σ) :
    wa X [e] σ H (fun vs H1 => ∃ ls1 own1 r v, vs = [v] ∧ Le F ls own H ls1 own1 H1 ∧ St0 X.K F ls1 own1 H1 ∧ RRep X.K ls1 (F.g ls1 own1 H1) r v ∧ Qe own1 r) :=
  (pa_cons (es := []) pe_we pa_nil hst).to (h ls σ H st sr _ fun ls1 own1 H1 r v l1 s1 rr q => ⟨ls1, own1, r, v, rfl, l1, s1, rr, q⟩)
theorem E.sortD {g : Str} {k : Nat} {pre : List D → Prop} {post : List D → D → Prop} (kf : D → PyData) (G : DOk X.prog X.w X.K X.mg X.base CX0 g k (spF X.K pre post)) (hr : Room (k + 2) X.A) (hms : X.mg "sorted" = none)
    (h : E X F e (fun o r => ∃ ds, r = .d (.lst ds) ∧ Keys X kf ds ∧ (∀ d ∈ ds, pre [d] ∧ ∀ e, post [d] e → plain e = true ∧ pyd e = kf d) ∧ Q o (.d (.lst (ds.mergeSort (PySem.W.dataLe false kf))))) own ρ)
    (hg : Gl X g := by rfl) (hgs : Gl X "sorted" := by rfl) (hdb : (g == ("__debug__" : Str)) = false := by decide)
    (hst : starEach [e] X.env = (false, eval e X.env) :: starEach [] X.env := by rfl) (he : backTo pos (starEach [e] X.env) = (false, eval e X.env) :: backTo pos (starEach [] X.env) := by rfl) (hpl : (backTo pos (starEach [e] X.env)).any (·.1) = false := by rfl)
    (hall : (backToKw pos (keywordEach [⟨some "key", .Name g p2, p3⟩] X.env)).all (·.1.isSome) = true := by rfl) (hnone : (backToKw pos (keywordEach [⟨some "key", .Name g p2, p3⟩] X.env)).any (·.1.isNone) = false := by rfl) (hks : (backToKw pos (keywordEach [⟨some "key", .Name g p2, p3⟩] X.env)).filterMap (·.1) = [Str.ofString "key"] := by rfl) :
    E X F (.Call (.Name "sorted" p) [e] [⟨some "key", .Name g p2, p3⟩] pos) Q own ρ := by
  obtain ⟨f, fd, ps, hmf, _, G, hb⟩ := G
  constructor
  intro ls σ H st sr Qv kk pins s I
  refine wpAny_Call_Name_kw (ld_blt I hgs hms (show bootBuiltins "sorted" = some (.builtin "sorted") from rfl) ?_)
  refine PyProof.Rows.callWith_kw (thn (arg1 h hst st sr pos pins s I)
    fun us s1 ⟨vs, H1, I1, r1, ls1, own1, r, v, ev, l1, s1', rr, ds, er, ks, hd, q⟩ => thn ((pk_cons (nm := some "key") (kpos := p3) (e := .Name g p2) (pe_glob (v := .ref f) hg hmf rfl hdb) pk_nil).run pos pins s1 σ H1 (fun zs H2 => zs = [.ref f] ∧ H2 = H1) I1 ⟨rfl, rfl⟩) fun ws s2 ⟨zs, H2, I2, r2, ez, eH⟩ => ?_) he hpl hall hnone
  rw [hks]
  subst ev er ez eH
  obtain ⟨u, rfl, ru⟩ := vals1 r1
  obtain ⟨z, rfl, rz⟩ := vals1 r2
  obtain rfl : z = Value.ref f := rz
  refine sort_end I2 s1' rr ru ks (fun v x d rx rd hm => ?_) (fun _ _ _ _ _ l => kk _ _ _ _ _ (l1.trans l)) false (by unfold Out; simpa using q)
  obtain ⟨hp, hq⟩ := hd d hm
  exact key_def G hr hb s1'.hid rx rd hp hq
/-- the names of the lambda's body: its parameter, what it captured -/
abbrev lamR (n : Nat) (d : D) (cs : List D) : Ro := some (.d d) :: (cs.map (fun c => some (R.d c)) ++ List.replicate (n - 1 - cs.length) none)
theorem slots_rep {K : PySem.W.Frag} {ls : List Addr} {G : Hp} {ρ : Ro} {σ : L2.St} (sr : SRep K ls G ρ σ) : ∀ {js : List Nat} {cs : List D}, js.map (fun j => ρ[j]?) = cs.map (fun c => some (some (R.d c))) → ∀ {G' : Hp}, Same G G' → SRep K [] G' (cs.map fun c => some (R.d c)) (js.map (slotAt σ))
  | [], [], _, _, _ => .nil
  | [], _ :: _, h, _, _ => by simp at h
  | _ :: _, [], h, _, _ => by simp at h
  | j :: js, c :: cs, h, G', sm => by
    simp only [List.map_cons, List.cons.injEq] at h
    obtain ⟨v, e1, e2⟩ := sr.get h.1
    rw [List.map_cons, List.map_cons, slotAt_of e1]
    exact .cons (Rep.mono (d := c) sm e2) (slots_rep sr h.2 sm)
theorem keyCall_lam {pins : List (Addr × Obj)} {σ : L2.St} {H : Hp} {S : List Addr} {N' fr : List Str} {y : Str} {js : List Nat} {k : Nat} {LF : NF} {lb : Expr} {f : Addr} {v : Value} {x : V} {d : D} {cs : List D} {key : PyData} (hS : NScope N' [y] fr LF.scope)
    (hb : ∀ (pm ctv : Value) (u : Value), bindArgs (PySem.W.kla_fn "<lambda>" LF.qual LF.params lb LF.scope LF.cl pm (.ref LF.c) ctv) ⟨[u], []⟩ = pure [(y, u)]) (cp : X.Ok → Caps X LF.cl fr js) (hr : Room (k + 3) X.A) (hf : H f = some (LamO f LF lb)) (hc : H LF.c = some (CodeO LF.c LF.qual)) (hid : ∀ b ∈ S, Hid (H b))
    (rx : RelV x v) (rd : Rep X.K (msk S H) d x) (sl : SRep X.K [] (msk S H) (cs.map fun c => some (R.d c)) (js.map (slotAt σ)))
    (body : ∀ (A : Around) (outer : List Env) (s : Shared) (H : Hp) (Fr : Fm), Room k (A.deeper (envF LF f s.heap.objs.size)) → Fr.mu = [] → E (ncx CX0 X.prog X.w X.K X.mg X.base N' LF f A outer s H E0) Fr lb (fun _ r => ∃ e, r = .d e ∧ plain e = true ∧ pyd e = key) [] (lamR N'.length d cs)) : KeyCall X pins σ H (.ref f) v key := by
  intro s1 H1 I1 sm
  refine key_end I1 (lam_run (k := k) hS hb hr.in1.in1 I1.env0.in1.in1 (sm _ _ hf) (sm _ _ hc) (cells_of I1 (cp I1.ok)) rx fun hr' => ?_)
  have st0 : St0 X.K (Fm.of H1 S []) [] [] H1 := ⟨rfl, List.nodup_nil, fun l hl => absurd hl (by simp), fun k l c hl => absurd hl (by simp), fun b o _ e => e, fun b h => h, fun b hb => (hid b hb).up (sm b), fun l hl => absurd hl (by simp), List.nil_prefix, fun _ _ e => by cases e⟩
  have eg : Fm.g (Fm.of H1 S []) [] [] H1 = msk S H1 := by show msk (S ++ live [] []) H1 = _; simp [live]
  have ln : cs.length = js.length := by
    have := sl.length
    simpa using this
  have sr : SRep X.K [] (Fm.g (Fm.of H1 S []) [] [] H1) (lamR N'.length d cs) (startF N' [x] (js.map (slotAt σ))) := by
    rw [eg]
    show SRep X.K [] (msk S H1) (some (R.d d) :: (cs.map (fun c => some (R.d c)) ++ List.replicate (N'.length - 1 - cs.length) none)) (some x :: (js.map (slotAt σ) ++ List.replicate (N'.length - [x].length - (js.map (slotAt σ)).length) none))
    refine .cons (Rep.mono (d := d) (msk_mono sm) rd) (srep_append (sl.up List.prefix_rfl (msk_mono sm)) ?_)
    rw [show N'.length - 1 - cs.length = N'.length - [x].length - (js.map (slotAt σ)).length by simp [ln]]
    exact srep_nones _
  refine body X.A.in1.in1 X.stack s1 H1 (Fm.of H1 S []) hr' rfl [] _ H1 st0 sr _ fun ls' own' H' r v l s' rv ⟨e, er, p1, p2⟩ => ?_
  subst er
  refine ⟨fun b o e => s'.keep b o (by simp) e, ?_⟩
  rw [← p2]
  exact dp_of rv p1
/-- sorted(e, key=lambda y: lb); the table of code objects is the first of the own cells -/
theorem E.sortL {nw : Bool} {c P : Addr} {params : Arguments} {lb : Expr} {scope : Scope} {N' fr : List Str} {y : Str} {js : List Nat} {k : Nat} (kf : D → PyData) (cs : List D) (TB : TabB X.base X.mg c P) (hcode : X.env.code = .ref c) (hla : F.la = [P]) (hS : NScope N' [y] fr scope)
    (hbind : ∀ (c' : Addr) (pm ctv : Value) (u : Value), bindArgs (PySem.W.kla_fn "<lambda>" (X.env.qual ++ "<lambda>") params lb scope (cloFrom X.env.cells scope.names []) pm (.ref c') ctv) ⟨[u], []⟩ = pure [(y, u)]) (hnd : ndefB X.env.scope scope fr = true) (hjs : js.map (fun j => X.N[j]?) = fr.map some)
    (hcs : js.map (fun j => ρ[j]?) = cs.map (fun c => some (some (R.d c)))) (hr : Room (k + 3) X.A) (hms : X.mg "sorted" = none)
    (h : E X F e (fun o r => ∃ ds, r = .d (.lst ds) ∧ o[0]? = some (.tab (X.env.qual ++ "<lambda>")) ∧ Keys X kf ds ∧
      (∀ d ∈ ds, ∀ (f c' : Addr) (A : Around) (outer : List Env) (s : Shared) (H : Hp) (Fr : Fm), Room k (A.deeper (envF (lamF X params scope c') f s.heap.objs.size)) → Fr.mu = [] → E (ncx CX0 X.prog X.w X.K X.mg X.base N' (lamF X params scope c') f A outer s H E0) Fr lb (fun _ r => ∃ e, r = .d e ∧ plain e = true ∧ pyd e = kf d) [] (lamR N'.length d cs)) ∧
      Out Q nw o (ds.mergeSort (PySem.W.dataLe false kf))) own ρ)
    (hdef : defaultsOf params X.env = ([], []) := by rfl) (hgs : Gl X "sorted" := by rfl)
    (hst : starEach [e] X.env = (false, eval e X.env) :: starEach [] X.env := by rfl) (he : backTo pos (starEach [e] X.env) = (false, eval e X.env) :: backTo pos (starEach [] X.env) := by rfl) (hpl : (backTo pos (starEach [e] X.env)).any (·.1) = false := by rfl)
    (hall : (backToKw pos (keywordEach [⟨some "key", .Lambda params lb scope lpos, p3⟩] X.env)).all (·.1.isSome) = true := by rfl) (hnone : (backToKw pos (keywordEach [⟨some "key", .Lambda params lb scope lpos, p3⟩] X.env)).any (·.1.isNone) = false := by rfl) (hks : (backToKw pos (keywordEach [⟨some "key", .Lambda params lb scope lpos, p3⟩] X.env)).filterMap (·.1) = [Str.ofString "key"] := by rfl) :
    E X F (.Call (.Name "sorted" p) [e] [⟨some "key", .Lambda params lb scope lpos, p3⟩] pos) Q own ρ := by
  constructor
  intro ls σ H st sr Qv kk pins s I
  refine wpAny_Call_Name_kw (ld_blt I hgs hms (show bootBuiltins "sorted" = some (.builtin "sorted") from rfl) ?_)
  refine PyProof.Rows.callWith_kw (thn (arg1 h hst st sr pos pins s I)
    fun us s1 ⟨vs, H1, I1, r1, ls1, own1, r, v, ev, l1, s1', rr, ds, er, ht, ks, hd, q⟩ => ?_) he hpl hall hnone
  subst ev er
  obtain ⟨u, rfl, ru⟩ := vals1 r1
  have hP : ls1[0]? = some P := by
    have := s1'.ap
    rw [hla] at this
    exact pre_get this rfl
  obtain ⟨ps, g1, g2, g3⟩ := s1'.at_ 0 P _ hP ht
  have hT : TabV H1 P (X.env.qual ++ "<lambda>") (fun c => c ∉ F.S0 ++ live ls1 own1) := ⟨ps, g1, g2, fun pos cv hc => (g3 pos cv hc).imp fun c z => ⟨z.1, msk_same _ _ _ _ z.2, fun hm => by
    have e : msk (F.S0 ++ live ls1 own1) H1 c = some (CodeO c (X.env.qual ++ "<lambda>")) := z.2
    rw [msk_in hm] at e
    cases e⟩⟩
  have hfree : ∀ y ∈ scope.names, y.2 = .free → ∃ c, X.env.cells.lookup y.1 = some c := fun y hy e => (ndef_free hnd y hy e).elim (fun z => I1.ok.has _ (.inl z)) fun z => I1.ok.has _ (.inr z)
  refine thn ((pk_cons (nm := some "key") (kpos := p3) (e := .Lambda params lb scope lpos) pe_we pk_nil).run pos pins s1 σ H1 (fun zs H2 => ∃ f c', zs = [.ref f] ∧ Grown P H1 H2 ∧ TabV H2 P (X.env.qual ++ "<lambda>") (fun c => c ∉ F.S0 ++ live ls1 own1) ∧ H2 f = some (LamO f (lamF X params scope c') lb) ∧ H2 c' = some (CodeO c' (X.env.qual ++ "<lambda>"))) I1
    (fun pins s1 I1 => lam_new I1 TB hcode hT (fun b hb hm => (s1'.hid b hm).ne hb) hdef hfree fun f c' H2 s2 I2 gr t2 h1 h2 => ⟨.ref f, H2, I2, rfl, f, c', rfl, gr, t2, h1, h2⟩)) fun ws s2 ⟨zs, H2, I2, r2, f, c', ez, gr, t2, hf, hc⟩ => ?_
  rw [hks]
  subst ez
  obtain ⟨z, rfl, rz⟩ := vals1 r2
  obtain rfl : z = Value.ref f := rz
  -- the state behind the lambda's making
  obtain ⟨ps2, a1, a2, a3⟩ := t2
  have hin : P ∈ F.S0 ++ live ls1 own1 := List.mem_append_right _ (live_get hP ht fun z => by cases z)
  have sm0 : Same (F.g ls1 own1 H1) (F.g ls1 own1 H2) := msk_but fun b o hb e => gr.up b o (fun z => hb (by rw [z]; exact hin)) e
  have z := st0_other (c' := .tab (X.env.qual ++ "<lambda>")) s1' hP ht (fun z => by cases z) (fun z => by cases z) gr.up (by rw [a1]; exact fun z => by cases z) ⟨ps2, a1, a2, fun pos cv hc => (a3 pos cv hc).imp fun c z => ⟨z.1, (msk_out z.2.2).trans z.2.1⟩⟩
  have eo : own1.set 0 (.tab (X.env.qual ++ "<lambda>")) = own1 := by
    obtain ⟨hlt, e⟩ := List.getElem?_eq_some_iff.mp ht
    rw [← e]; exact List.set_getElem_self hlt
  rw [eo] at z
  obtain ⟨s2', l2⟩ := z
  refine sort_end I2 s2' (rr.up l2.pre l2.same) ru ks (fun v x d rx rd hm => ?_) (fun _ _ _ _ _ l => kk _ _ _ _ _ ((l1.trans l2).trans l)) nw q
  exact keyCall_lam (LF := lamF X params scope c') hS (hbind c') (fun ok => Caps.made ok (ndef_free hnd) (ndef_fr hnd) hjs) hr hf hc s2'.hid rx rd (slots_rep (sr.up (l1.trans l2).pre (l1.trans l2).same) hcs (Same.refl _)) fun A outer s H Fr => hd d hm f c' A outer s H Fr
end
end DL

/-! Fw24: defs that change a table of code objects (they make lambdas), and nothing else -/
namespace DL
open PySem PySem.Spec PyProof.Rows L2
def TabC (G H : Hp) (l : Addr) (q : Str) : Prop := ∃ ps : Array Value, H l = some (.tbl ps) ∧ TriplesOk ps.toList ∧ ∀ (pos : Pos) (cv : Value), codeAmong pos ps.toList = some cv → ∃ c, cv = .ref c ∧ G c = some (LamX.CodeO c q)
abbrev Lent (K : PySem.W.Frag) (S : List Addr) (H : Hp) (bs : List (Addr × List D)) : Prop := ∀ x ∈ bs, x.1 ∈ S ∧ ∃ xs, H x.1 = some (.lst xs) ∧ Reps K (msk S H) x.2 xs
/-- a def that may change the table at P -/
def spT (K : PySem.W.Frag) (P : Addr) (q : Str) (pre : List (Addr × List D) → List D → Prop) (post : List D → D → Prop) : Sp := fun vs H Q _ => ∃ (S : List Addr) (bs : List (Addr × List D)) (ds : List D), P ∈ S ∧ (∀ b ∈ S, Hid (H b)) ∧ TabC (msk S H) H P q ∧ Lent K S H bs ∧ Reps K (msk S H) ds vs ∧ pre bs ds ∧
  ∀ H' d v, (∀ b o, b ≠ P → H b = some o → H' b = some o) → TabC (msk S H') H' P q → Rep K (msk S H') d v → post ds d → Q v H'
/-- .. that hands back a new list -/
def spTN (K : PySem.W.Frag) (P : Addr) (q : Str) (pre : List (Addr × List D) → List D → Prop) (I : List D → List D → Prop) : Sp := fun vs H Q _ => ∃ (S : List Addr) (bs : List (Addr × List D)) (ds : List D), P ∈ S ∧ (∀ b ∈ S, Hid (H b)) ∧ TabC (msk S H) H P q ∧ Lent K S H bs ∧ Reps K (msk S H) ds vs ∧ pre bs ds ∧
  ∀ p H' xs ps, (∀ b o, b ≠ P → H b = some o → H' b = some o) → TabC (msk S H') H' P q → H p = none → H' p = some (.lst xs) → Reps K (msk (S ++ [p]) H') ps xs → I ds ps → Q (.ref p) H'
abbrev fT (H : Hp) (S : List Addr) (P : Addr) : Fm := { H0 := H, S0 := S.filter (· ≠ P), mu := [P], la := [P], ga := msk S H }
theorem fT_msk {S : List Addr} {P : Addr} (h : P ∈ S) (H : Hp) : msk (S.filter (· ≠ P) ++ [P]) H = msk S H := msk_congr fun b => by
  simp only [List.mem_append, List.mem_filter, List.mem_singleton, decide_eq_true_eq, ne_eq]
  constructor
  · rintro (⟨h, _⟩ | rfl)
    · exact h
    · exact h
  · intro hb
    by_cases e : b = P
    · exact .inr e
    · exact .inl ⟨hb, e⟩
section
variable {K : PySem.W.Frag} {H : Hp} {S : List Addr} {P : Addr} {q : Str}
theorem st0_T (hP : P ∈ S) (h1 : ∀ b ∈ S, Hid (H b)) (ht : TabC (msk S H) H P q) : St0 K (fT H S P) [P] [.tab q] H ∧ Fm.g (fT H S P) [P] [.tab q] H = msk S H := by
  have eg : Fm.g (fT H S P) [P] [.tab q] H = msk S H := fT_msk hP H
  refine ⟨⟨rfl, by simp, fun b hb => ?_, fun j b c e1 e2 => ?_, fun b o _ e => e, fun b h => h, fun b hb => h1 b (List.mem_filter.mp hb).1, fun b hb => ?_, List.prefix_rfl, by rw [eg]; exact Same.refl _⟩, eg⟩
  · rw [List.mem_singleton.mp hb]; exact ⟨by simp, .inr (by simp)⟩
  · cases j with
    | zero =>
      simp at e1 e2
      subst e1; subst e2
      rw [eg]
      exact ht
    | succ j => simp at e1
  · rw [List.mem_singleton.mp hb]; exact (h1 P hP).ne
theorem lent_T (hP : P ∈ S) (ht : TabC (msk S H) H P q) {bs : List (Addr × List D)} (h : Lent K S H bs) : ∀ x ∈ bs, Brw K (fT H S P) x.1 x.2 := fun x hx => by
  obtain ⟨h1, xs, h2, h3⟩ := h x hx
  have ne : x.1 ≠ P := fun z => by
    obtain ⟨ps, e, _⟩ := ht
    rw [z, e] at h2; cases h2
  exact ⟨List.mem_filter.mpr ⟨h1, by simpa using ne⟩, by simpa using ne, xs, h2, h3⟩
/-- what stands behind: the table, the rest as it was -/
theorem T_end (hP : P ∈ S) {own : List Cell} {ls' : List Addr} {own' : List Cell} {H' : Hp} (le : Le (fT H S P) [P] [.tab q] H ls' own' H') (s' : St0 K (fT H S P) ls' own' H') (hc : own'[0]? = some (.tab q)) :
    (∀ b o, b ≠ P → H b = some o → H' b = some o) ∧ TabC (msk S H') H' P q ∧ Same (Fm.g (fT H S P) ls' own' H') (msk S H') := by
  have e0 : ls'[0]? = some P := pre_get le.pre rfl
  have sub : Same (Fm.g (fT H S P) ls' own' H') (msk S H') := by
    rw [← fT_msk hP]
    refine msk_le fun b hb => ?_
    rcases List.mem_append.mp hb with h | h
    · exact List.mem_append_left _ h
    · rw [List.mem_singleton.mp h]; exact List.mem_append_right _ (live_get e0 hc fun z => by cases z)
  refine ⟨fun b o hb e => s'.keep b o (by simpa using hb) e, ?_, sub⟩
  obtain ⟨ps, h1, h2, h3⟩ := s'.at_ 0 P _ e0 hc
  exact ⟨ps, h1, h2, fun pos cv hcv => (h3 pos cv hcv).imp fun c z => ⟨z.1, sub _ _ z.2⟩⟩
end
section
variable {P : Program} {w : World} {K : PySem.W.Frag} {mg : Str → Option Value} {base : Heap}
theorem fun_okc {x qual : Str} {st : Stmt} {f : Addr} {fd : FuncData} {N ps : List Str} {k : Nat} {sp : Sp} (F : Fun K x qual st f fd) (S : FnScope N ps (defScope st)) (len : ∀ vs H Q E, sp vs H Q E → vs.length = ps.length)
    (hbody : ∀ (A : Around) (outer : List Env) (s : Shared) (H : Hp) (vs : List V) (Q : VK) (E : XK), Room k (A.deeper (envOfC qual (defScope st) s.heap.objs.size f fd.code)) → sp vs H Q E → ∃ t, PSs (cx0 P w K mg base N qual (defScope st) f fd.code A outer s H E) (defBody st) t ∧ t { nx := fun _ H' => Q .non H', rt := Q } (L2.start N vs) H) :
    FnOk P w K mg base CX0 (k + 1) f fd ps sp := by
  obtain ⟨oc, od, kV, doc, pm, an, cdv, ct, osl, rfl, lk, hcd⟩ := F.ex
  exact fn_of lk hcd S len fun A outer s H vs Q E hr hsp => (hbody A outer s H vs Q E hr hsp).imp fun t z => ⟨z.1.nox, z.2⟩
theorem ok_T {x qual : Str} {st : Stmt} {f T : Addr} {q : Str} {fd : FuncData} {N ps : List Str} {k : Nat} (F : Fun K x qual st f fd) (S : FnScope N ps (defScope st)) {pre : List (Addr × List D) → List D → Prop} {post : List D → D → Prop} (hlen : ∀ bs ds, pre bs ds → ds.length = ps.length)
    (body : ∀ (A : Around) (outer : List Env) (s : Shared) (H : Hp) (E : XK) (Fr : Fm) (bs : List (Addr × List D)) (ds : List D), Room k (A.deeper (envOfC qual (defScope st) s.heap.objs.size f fd.code)) → Fr.la = [T] → (∀ x ∈ bs, Brw K Fr x.1 x.2) → pre bs ds →
      W (cx0 P w K mg base N qual (defScope st) f fd.code A outer s H E) Fr (defBody st) { nx := fun own _ => own[0]? = some (.tab q) ∧ post ds .non, rt := fun own r => own[0]? = some (.tab q) ∧ ∃ d, r = .d d ∧ post ds d } [.tab q] (ent N.length (ds.map R.d))) :
    FnOk P w K mg base CX0 (k + 1) f fd ps (spT K T q pre post) := by
  refine fun_okc F S (fun vs H Q E h => ?_) (fun A outer s H vs Q E hr h => ?_)
  · obtain ⟨_, bs, ds, _, _, _, _, h2, h3, _⟩ := h
    rw [← h2.length]; exact hlen bs ds h3
  · obtain ⟨S0, bs, ds, hT, h1, ht, hbs, h2, h3, kk⟩ := h
    refine ⟨_, pss_ws, ?_⟩
    obtain ⟨st0, eg⟩ := st0_T (K := K) hT h1 ht
    have sr : SRep K [T] (Fm.g (fT H S0 T) [T] [.tab q] H) (ent N.length (ds.map R.d)) (L2.start N vs) := start_rep N (by rw [eg]; exact RReps.ofD h2)
    have fin : ∀ {ls' : List Addr} {own' : List Cell} {H' : Hp} {d : D} {v : V}, Le (fT H S0 T) [T] [.tab q] H ls' own' H' → St0 K (fT H S0 T) ls' own' H' → own'[0]? = some (.tab q) → Rep K (Fm.g (fT H S0 T) ls' own' H') d v → post ds d → Q v H' := fun le s' hc r q => by
      obtain ⟨a1, a2, a3⟩ := T_end (own := []) hT le s' hc
      exact kk _ _ _ a1 a2 (Rep.mono a3 r) q
    refine body A outer s H E (fT H S0 T) bs ds hr rfl (lent_T hT ht hbs) h3 [T] (L2.start N vs) H st0 sr _ ⟨?_, ?_, ?_, ?_⟩
    · rintro ls' own' H' ρ σ le s' _ ⟨hc, q⟩
      exact fin (d := .non) le s' hc (by simp only [Rep]) q
    · rintro ls' own' H' r v le s' rv ⟨hc, d, rfl, q⟩
      exact fin le s' hc rv q
    · intro _ _ _ _ _ _ _ _ q; exact q
    · intro _ _ _ _ _ _ _ _ q; exact q
theorem ok_TN {x qual : Str} {st : Stmt} {f T : Addr} {q : Str} {fd : FuncData} {N ps : List Str} {k : Nat} (F : Fun K x qual st f fd) (S : FnScope N ps (defScope st)) {pre : List (Addr × List D) → List D → Prop} {I : List D → List D → Prop} (hlen : ∀ bs ds, pre bs ds → ds.length = ps.length)
    (body : ∀ (A : Around) (outer : List Env) (s : Shared) (H : Hp) (E : XK) (Fr : Fm) (bs : List (Addr × List D)) (ds : List D), Room k (A.deeper (envOfC qual (defScope st) s.heap.objs.size f fd.code)) → Fr.la = [T] → (∀ x ∈ bs, Brw K Fr x.1 x.2) → pre bs ds →
      W (cx0 P w K mg base N qual (defScope st) f fd.code A outer s H E) Fr (defBody st) { nx := fun _ _ => False, rt := fun own r => own[0]? = some (.tab q) ∧ ∃ n qs, r = .c n ∧ own[n]? = some (.lst (qs.map R.d)) ∧ I ds qs } [.tab q] (ent N.length (ds.map R.d))) :
    FnOk P w K mg base CX0 (k + 1) f fd ps (spTN K T q pre I) := by
  refine fun_okc F S (fun vs H Q E h => ?_) (fun A outer s H vs Q E hr h => ?_)
  · obtain ⟨_, bs, ds, _, _, _, _, h2, h3, _⟩ := h
    rw [← h2.length]; exact hlen bs ds h3
  · obtain ⟨S0, bs, ds, hT, h1, ht, hbs, h2, h3, kk⟩ := h
    refine ⟨_, pss_ws, ?_⟩
    obtain ⟨st0, eg⟩ := st0_T (K := K) hT h1 ht
    have sr : SRep K [T] (Fm.g (fT H S0 T) [T] [.tab q] H) (ent N.length (ds.map R.d)) (L2.start N vs) := start_rep N (by rw [eg]; exact RReps.ofD h2)
    refine body A outer s H E (fT H S0 T) bs ds hr rfl (lent_T hT ht hbs) h3 [T] (L2.start N vs) H st0 sr _ ⟨?_, ?_, ?_, ?_⟩
    · intro _ _ _ _ _ _ _ _ q; exact q.elim
    · rintro ls' own' H' r v le s' rv ⟨hc, n, qs, rfl, hcn, q⟩
      obtain ⟨a1, a2, a3⟩ := T_end (own := []) hT le s' hc
      obtain ⟨l, hl, rfl⟩ := rv
      obtain ⟨xs, g1, g2⟩ := s'.at_ n l _ hl hcn
      have e0 : ls'[0]? = some T := pre_get le.pre rfl
      have hlT : l ≠ T := fun z => by
        subst z
        obtain ⟨ps, e, _⟩ := a2
        rw [e] at g1; cases g1
      have hn : H l = none := by
        rcases (s'.new l (List.mem_of_getElem? hl)).2 with h | h
        · exact h
        · exact absurd (by simpa using h) hlT
      refine kk l H' xs qs a1 a2 hn g1 (Reps.mono ?_ (RReps.toD g2)) q
      have e2 : msk (S0 ++ [l]) H' = msk ((S0.filter (· ≠ T) ++ [T]) ++ [l]) H' := msk_congr fun b => by
        simp only [List.mem_append, List.mem_filter, List.mem_singleton, decide_eq_true_eq, ne_eq]
        constructor
        · rintro (h | h)
          · by_cases z : b = T
            · exact .inl (.inr z)
            · exact .inl (.inl ⟨h, z⟩)
          · exact .inr h
        · rintro ((⟨h, _⟩ | rfl) | h)
          · exact .inl h
          · exact .inl hT
          · exact .inr h
      rw [e2]
      refine msk_le fun b hb => ?_
      rcases List.mem_append.mp hb with h | h
      · rcases List.mem_append.mp h with h | h
        · exact List.mem_append_left _ h
        · rw [List.mem_singleton.mp h]; exact List.mem_append_right _ (live_get e0 hc fun z => by cases z)
      · rw [List.mem_singleton.mp h]; exact List.mem_append_right _ (live_get hl hcn fun z => by cases z)
    · intro _ _ _ _ _ _ _ _ q; exact q
    · intro _ _ _ _ _ _ _ _ q; exact q
end
section
variable {X : Cx} {F : Fm} {own : List Cell} {ρ : Ro} {Q : QE} {k : Nat} {C T : Addr} {q : Str} {pre : List (Addr × List D) → List D → Prop} {post : List D → D → Prop} {I : List D → List D → Prop} {x m : Str} {p pos apos : Pos} {e o : Expr} {es : List Expr}
theorem set_tab (ht : own[0]? = some (.tab q)) : own.set 0 (.tab q) = own := by
  obtain ⟨hlt, e⟩ := List.getElem?_eq_some_iff.mp ht
  rw [← e]; exact List.set_getElem_self hlt
theorem tab_at {ls : List Addr} {H : Hp} (st : St0 X.K F ls own H) (hla : F.la = [T]) : ls[0]? = some T := by
  have := st.ap
  rw [hla] at this
  exact pre_get this rfl
theorem tab_next {ls : List Addr} {H H' : Hp} (st : St0 X.K F ls own H) (hla : F.la = [T]) (ht : own[0]? = some (.tab q)) (a1 : ∀ b o, b ≠ T → H b = some o → H' b = some o) (a2 : TabC (msk (F.S0 ++ live ls own) H') H' T q) : St0 X.K F ls own H' ∧ Le F ls own H ls own H' := by
  have z := st0_other (c' := .tab q) st (tab_at st hla) ht (fun z => by cases z) (fun z => by cases z) a1 (by obtain ⟨ps, e, _⟩ := a2; rw [e]; exact fun z => by cases z) a2
  rw [set_tab ht] at z
  exact z
theorem spT_use {ls H Qv} {rs : List R} {vs : List V} (st : St0 X.K F ls own H) (hla : F.la = [T]) (ht : own[0]? = some (.tab q)) (rr : RReps X.K ls (F.g ls own H) rs vs) (hp : ∀ ad, ∃ bs ds, Lend own ad rs ds bs ∧ pre bs ds ∧ ∀ d, post ds d → Q own (.d d)) (k : KV' X F ls own H Q Qv) (E : XK) : spT X.K T q pre post vs H Qv E := by
  obtain ⟨bs, ds, ln, hpre, hq⟩ := hp (adOf ls)
  obtain ⟨g1, g2⟩ := ln.use st adOf_at rr
  refine ⟨F.S0 ++ live ls own, bs, ds, List.mem_append_right _ (live_get (tab_at st hla) ht fun z => by cases z), st.hid, st.at_ 0 T _ (tab_at st hla) ht, g2, g1, hpre, fun H' d v a1 a2 rd pd => ?_⟩
  obtain ⟨s', le⟩ := tab_next st hla ht a1 a2
  exact k _ _ _ (.d d) _ le s' rd (hq d pd)
theorem spTN_use {ls H Qv} {rs : List R} {vs : List V} (st : St0 X.K F ls own H) (hla : F.la = [T]) (ht : own[0]? = some (.tab q)) (rr : RReps X.K ls (F.g ls own H) rs vs) (hp : ∀ ad, ∃ bs ds, Lend own ad rs ds bs ∧ pre bs ds ∧ ∀ qs, I ds qs → Q (own ++ [.lst (qs.map R.d)]) (.c own.length)) (k : KV' X F ls own H Q Qv) (E : XK) : spTN X.K T q pre I vs H Qv E := by
  obtain ⟨bs, ds, ln, hpre, hq⟩ := hp (adOf ls)
  obtain ⟨g1, g2⟩ := ln.use st adOf_at rr
  have hT := tab_at st hla
  have hin : T ∈ F.S0 ++ live ls own := List.mem_append_right _ (live_get hT ht fun z => by cases z)
  refine ⟨F.S0 ++ live ls own, bs, ds, hin, st.hid, st.at_ 0 T _ hT ht, g2, g1, hpre, fun p H' xs qs a1 a2 hn h1 h2 h3 => ?_⟩
  have hpT : T ≠ p := fun z => by
    have := (st.hid T hin).ne
    rw [z] at this; exact this hn
  have off : ∀ b o, b ≠ p → H' b = some o → msk [p] H' b = some o := fun b o hb e => by rw [msk_out (by simpa using hb)]; exact e
  have t2 : TabC (msk (F.S0 ++ live ls own) (msk [p] H')) (msk [p] H') T q := by
    obtain ⟨ps, e1, e2, e3⟩ := a2
    refine ⟨ps, off _ _ hpT e1, e2, fun pos cv hc => (e3 pos cv hc).imp fun c z => ⟨z.1, ?_⟩⟩
    have hb : c ≠ p := fun y => by
      have := msk_same _ _ _ _ z.2
      rw [y, h1] at this
      unfold LamX.CodeO at this
      cases this
    have e := z.2
    unfold msk at e ⊢
    split at e
    · cases e
    · rename_i nh
      rw [if_neg nh, if_neg (by simpa using hb)]
      exact e
  obtain ⟨s', le⟩ := tab_next (H' := msk [p] H') st hla ht (fun b o hb e => off b o (fun z => by rw [z, hn] at e; cases e) (a1 b o hb e)) t2
  have z := st0_adopt (c := .lst (qs.map R.d)) s' (msk_same [p] H') (msk_in (by simp)) (fun z => by cases z) ⟨xs, h1, RReps.ofD h2⟩
  exact k _ _ _ (.c own.length) _ (le.trans z.2) z.1 ⟨p, by rw [← st.len]; simp, rfl⟩ (hq qs h3)
theorem E.dcallT (G : DOk X.prog X.w X.K X.mg X.base CX0 x k (spT X.K T q pre post)) (hla : F.la = [T]) (hr : Room k X.A)
    (h : A X F (e :: es) (fun o rs => o[0]? = some (.tab q) ∧ ∀ ad, ∃ bs ds, Lend o ad rs ds bs ∧ pre bs ds ∧ ∀ d, post ds d → Q o (.d d)) own ρ) (hg : Gl X x := by rfl) (hdb : (x == ("__debug__" : Str)) = false := by decide) (he : starEach (e :: es) X.env = (false, eval e X.env) :: starEach es X.env := by rfl)
    (hpl : (backTo pos (starEach es X.env)).any (·.1) = false := by rfl) : E X F (.Call (.Name x p) (e :: es) [] pos) Q own ρ := by
  obtain ⟨f, fd, ps, hm, hk, G, hb⟩ := G
  constructor
  intro ls σ H st sr Qv kk
  refine (pe_call G hr hg hm hk hb .nil pass0 pa_wa hdb he hpl).to ?_
  refine h ls σ H st sr _ fun ls1 own1 H1 rs vs l1 s1 rr ⟨ht, hq⟩ => ?_
  rw [List.append_nil]
  exact spT_use s1 hla ht rr hq (fun _ _ _ _ _ l => kk _ _ _ _ _ (l1.trans l)) _
theorem E.dmethTN {pl : Sem Bool} (c : Cls X.K C) (G : MOk X.prog X.w X.K X.mg X.base CX0 C m k (spTN X.K T q pre I)) (hla : F.la = [T]) (hr : Room k X.A)
    (h : E X F o (fun o1 r => ∃ ns ds0, r = .d (.ins C ns ds0) ∧ (ns.zip ds0).lookup m = none ∧ A X F (e :: es) (fun o2 rs => o2[0]? = some (.tab q) ∧ ∀ ad, ∃ bs ds, Lend o2 ad rs ds bs ∧ pre bs (.ins C ns ds0 :: ds) ∧ ∀ qs, I (.ins C ns ds0 :: ds) qs → Q (o2 ++ [.lst (qs.map R.d)]) (.c o2.length)) o1 ρ) own ρ)
    (hst : starEach (e :: es) X.env = (false, eval e X.env) :: starEach es X.env := by rfl) (hpl : (backTo pos (starEach es X.env)).any (·.1) = false := by rfl)
    (ht : eval (.Call (.Attribute o m apos) (e :: es) [] pos) X.env = (do
      let ov ← eval o X.env
      standAt apos.atName
      let (f, first) ← holding [ov] (getMethod ov m pl)
      callWith pos f first (backTo pos (starEach (e :: es) X.env)) (backToKw pos (keywordEach [] X.env))) := by rfl) : E X F (.Call (.Attribute o m apos) (e :: es) [] pos) Q own ρ := by
  obtain ⟨f, fd, ps, h1, h2, h3, G, hb⟩ := G
  constructor
  intro ls σ H st sr Qv kk
  refine (pe_meth pe_we c ⟨h1, h2, h3⟩ G hr hb .nil pass0 pa_wa hst hpl ht).to ?_
  refine h ls σ H st sr _ fun ls1 own1 H1 r u l1 s1 rr ⟨ns, ds0, er, hn, ha⟩ => ?_
  subst er
  obtain ⟨a, dx, fs, rfl, g1, g2⟩ := meth_core s1 rr hn
  refine ⟨a, dx, fs, rfl, g1, g2, ?_⟩
  refine ha ls1 σ H1 s1 (sr.up l1.pre l1.same) _ fun ls2 own2 H2 rs vs l2 s2 rr2 ⟨ht2, hq⟩ => ?_
  rw [List.append_nil]
  refine spTN_use (rs := .d (.ins C ns ds0) :: rs) s2 hla ht2 (.cons (rr.up l2.pre l2.same) rr2) (fun ad => ?_) (fun _ _ _ _ _ l => kk _ _ _ _ _ ((l1.trans l2).trans l)) _
  obtain ⟨bs, ds, ln, q1, q2⟩ := hq ad
  exact ⟨bs, _, .dat ln, q1, q2⟩
end
end DL

/-! Fw25: short rules for comprehensions that only map; texts -/
namespace DL
open PySem PySem.Spec PyProof.Rows L2
section
variable {X : Cx} {F : Fm} {scope : Scope} {elt iter t : Expr} {own : List Cell} {ρ : Ro} {Q : QE} {x : Str} {tp pos : Pos} {ds : List D} {r : R}
/-- [e for x in xs], each by itself -/
theorem E.lcM (i : Nat) (g : D → D) (q : IsSeq X.K F r ds) (hc : X.calm = true) (nd : X.N.Nodup) (ok : BlkOk X.N X.env.scope scope [(x, i)])
    (h : E X F iter (fun o r' => r' = r ∧ ds.length ≤ 100000 ∧ (∀ d ∈ ds, ∀ s H0 C cl fp (F' : Fm), Fle X.K F F' → E (bx X scope s H0 C cl fp) F' elt (fun o' r => o' = o ∧ r = .d (g d)) o ((ρ.set i none).set i (some (.d d)))) ∧ Q o (.d (.lst (ds.map g)))) own ρ)
    (hg : ∀ s H0 C cl fp, PG (bx X scope s H0 C cl fp) (.Name x tp) (gName i) := by intro _ _ _ _ _; exact pg_name (by assumption) rfl (Or.inl rfl)) (hs : ∀ x, foldedSetIterable iter X.env x = pure x := by intro _; rfl) :
    E X F (.ListComp elt [⟨.Name x tp, iter, [], 0⟩] scope pos) Q own ρ := by
  refine E.lcQ i (fun j acc => acc = (ds.take j).map g) q hc nd ok (h.mono fun o r' ⟨e, z, f, q⟩ => ⟨e, z, rfl, fun j d acc hd ha s H0 C cl fp F' le => ?_, fun acc ha => ?_⟩) hg hs
  · refine (f d (List.mem_of_getElem? hd) s H0 C cl fp F' le).mono fun o' r ⟨e1, e2⟩ => ⟨e1, g d, e2, ?_⟩
    rw [ha, List.take_add_one, hd]; simp
  · rw [ha, List.take_length]; exact q
/-- [e for k in range(n)], each by itself -/
theorem E.lcMr {a : Expr} {p0 p1 : Pos} (i : Nat) (g : Nat → D) (hm : X.mg "range" = none) (hc : X.calm = true) (nd : X.N.Nodup) (ok : BlkOk X.N X.env.scope scope [(x, i)])
    (h : E X F a (fun o r => ∃ m : Int, r = .d (.int m) ∧ m ≤ 100000 ∧ -(2 ^ 62) ≤ m ∧ (∀ (j : Nat), j < m.toNat → ∀ s H0 C cl fp (F' : Fm), Fle X.K F F' → E (bx X scope s H0 C cl fp) F' elt (fun o' r => o' = o ∧ r = .d (g j)) o ((ρ.set i none).set i (some (.d (.int j))))) ∧ Q o (.d (.lst ((List.range m.toNat).map g)))) own ρ)
    (hg : ∀ s H0 C cl fp, PG (bx X scope s H0 C cl fp) (.Name x tp) (gName i) := by intro _ _ _ _ _; exact pg_name (by assumption) rfl (Or.inl rfl)) (hgr : Gl X "range" := by rfl) (hst : starEach [a] X.env = [(false, eval a X.env)] := by rfl)
    (hs : ∀ x, foldedSetIterable (.Call (.Name "range" p0) [a] [] p1) X.env x = pure x := by intro _; rfl) :
    E X F (.ListComp elt [⟨.Name x tp, .Call (.Name "range" p0) [a] [] p1, [], 0⟩] scope pos) Q own ρ := by
  refine E.lcR i (fun j acc => acc = (List.range j).map g) hm hc nd ok (h.mono fun o r ⟨m, e, z1, z2, f, q⟩ => ⟨m, e, z1, z2, rfl, fun j acc hj ha s H0 C cl fp F' le => ?_, fun acc ha => by rw [ha]; exact q⟩) hg hgr hst hs
  refine (f j hj s H0 C cl fp F' le).mono fun o' r ⟨e1, e2⟩ => ⟨e1, g j, e2, ?_⟩
  rw [ha, List.range_succ]; simp
theorem T.mono {QT QT' : List Cell → Bool → Prop} {e : Expr} (k : ∀ o b, QT o b → QT' o b) (h : T X F e QT own ρ) : T X F e QT' own ρ := .mk fun ls σ H st sr Qb kk => h ls σ H st sr Qb fun _ _ _ b l s q => kk _ _ _ b l s (k _ _ q)
/-- [e for x in xs if t], each by itself -/
theorem E.lcF (i : Nat) (p : D → Bool) (g : D → D) (ds : List D) (hc : X.calm = true) (nd : X.N.Nodup) (ok : BlkOk X.N X.env.scope scope [(x, i)])
    (h : E X F iter (fun o r => r = .d (.lst ds) ∧ ds.length ≤ 100000 ∧ (∀ d ∈ ds, ∀ s H0 C cl fp (F' : Fm), Fle X.K F F' → T (bx X scope s H0 C cl fp) F' t (fun o' b => o' = o ∧ b = p d) o ((ρ.set i none).set i (some (.d d)))) ∧
      (∀ d ∈ ds, p d = true → ∀ s H0 C cl fp (F' : Fm), Fle X.K F F' → E (bx X scope s H0 C cl fp) F' elt (fun o' r => o' = o ∧ r = .d (g d)) o ((ρ.set i none).set i (some (.d d)))) ∧ Q o (.d (.lst ((ds.filter p).map g)))) own ρ)
    (hg : ∀ s H0 C cl fp, PG (bx X scope s H0 C cl fp) (.Name x tp) (gName i) := by intro _ _ _ _ _; exact pg_name (by assumption) rfl (Or.inl rfl)) (hs : ∀ x, foldedSetIterable iter X.env x = pure x := by intro _; rfl) :
    E X F (.ListComp elt [⟨.Name x tp, iter, [t], 0⟩] scope pos) Q own ρ := by
  refine E.lcLi i (fun j acc => acc = ((ds.take j).filter p).map g) hc nd ok (h.mono fun o r ⟨e, z, ft, fe, q⟩ => ⟨ds, .inl e, z, rfl, fun j d acc hd ha s H0 C cl fp F' le => ?_, fun acc ha => by rw [ha, List.take_length]; exact q⟩) hg hs
  refine (ft d (List.mem_of_getElem? hd) s H0 C cl fp F' le).mono fun o' b ⟨e1, e2⟩ => ⟨e1, ?_⟩
  subst e1
  have ek : ((ds.take (j + 1)).filter p).map g = acc ++ (if p d = true then [g d] else []) := by
    rw [ha, List.take_add_one, hd, List.filter_append, List.map_append]
    cases hp : p d <;> simp [hp]
  cases b with
  | true =>
    refine iteT fun s H0 C cl fp F' le => ?_
    refine (fe d (List.mem_of_getElem? hd) e2.symm s H0 C cl fp F' le).mono fun o' r ⟨e1, e3⟩ => ⟨e1, g d, e3, ?_⟩
    rw [ek, ← e2]; rfl
  | false =>
    refine iteF ?_
    rw [ek, ← e2]; simp
theorem Cl.lenS {s : Str} (hz : s.length ≤ sizeLine) (h : Q own (.d (.int s.length))) : Cl X F (.builtin "len") [.d (.str s)] Q own := by
  constructor
  intro ls H vs st rr Qv k
  obtain ⟨v, rfl, rv⟩ := rrs1 rr
  have e : v = .str s := by simpa only [RRep, Rep] using rv
  subst e
  exact call_len_str.to ⟨s, rfl, hz, k _ _ _ (.d (.int _)) _ Le.refl st ir_int h⟩
end
/-- texts whose signs are of this world -/
abbrev LStr := {s : Str // (PyData.str s).canLay0 = true}
theorem Enc.str : Enc LStr (fun s => D.str s.1) 0 := ⟨fun _ => rfl, fun a b => by
  simp only [pyd, PyData.eqv]
  by_cases h : a = b
  · subst h; simp
  · have : ¬ a.1 = b.1 := fun z => h (Subtype.ext z)
    simp [h, this], fun a => a.2, fun _ => Nat.le_refl _⟩
section
variable {X : Cx} {F : Fm} {own : List Cell} {ρ : Ro} {Q : QE} {ns ms : List Int} {as bs : List (List Int)} {m : Nat} {i : Int}
abbrev tupI (es : List Int) : D := .tup (es.map D.int)
theorem Enc.tl : Enc (List (List Int)) (fun xs => .lst (xs.map tupI)) 2 := Enc.int.tup.lst
theorem O2.eqIL (hu : X.A.units + 64 < cLine) (h : Q own (.d (.bl (decide (ns = ms))))) : O2 X F (.cmp .Eq) (.d (.lst (ns.map D.int))) (.d (.lst (ms.map D.int))) Q own := O2.eqE (f := fun xs => .lst (xs.map D.int)) Enc.int.lst hu h
theorem O2.neIL (hu : X.A.units + 64 < cLine) (h : Q own (.d (.bl (!decide (ns = ms))))) : O2 X F (.cmp .NotEq) (.d (.lst (ns.map D.int))) (.d (.lst (ms.map D.int))) Q own := O2.neE (f := fun xs => .lst (xs.map D.int)) Enc.int.lst hu h
theorem O2.eqIT (hu : X.A.units + 64 < cLine) (h : Q own (.d (.bl (decide (ns = ms))))) : O2 X F (.cmp .Eq) (.d (tupI ns)) (.d (tupI ms)) Q own := O2.eqE (f := tupI) Enc.int.tup hu h
theorem O2.neIT (hu : X.A.units + 64 < cLine) (h : Q own (.d (.bl (!decide (ns = ms))))) : O2 X F (.cmp .NotEq) (.d (tupI ns)) (.d (tupI ms)) Q own := O2.neE (f := tupI) Enc.int.tup hu h
theorem O2.eqTL (hu : X.A.units + 64 < cLine) (h : Q own (.d (.bl (decide (as = bs))))) : O2 X F (.cmp .Eq) (.d (.lst (as.map tupI))) (.d (.lst (bs.map tupI))) Q own := O2.eqE (f := fun xs => .lst (xs.map tupI)) Enc.tl hu h
theorem O2.neTL (hu : X.A.units + 64 < cLine) (h : Q own (.d (.bl (!decide (as = bs))))) : O2 X F (.cmp .NotEq) (.d (.lst (as.map tupI))) (.d (.lst (bs.map tupI))) Q own := O2.neE (f := fun xs => .lst (xs.map tupI)) Enc.tl hu h
theorem O2.ninTC (hu : X.A.units + 65 < cLine) (hc : own[m]? = some (.lst ((as.map tupI).map R.d))) (h : Q own (.d (.bl (!decide (ns ∈ as))))) : O2 X F (.cmp .NotIn) (.d (tupI ns)) (.c m) Q own := O2.ninC (f := tupI) Enc.int.tup hu hc (by by_cases hm : ns ∈ as <;> simp only [hm, decide_true, decide_false] at h ⊢ <;> exact h)
theorem O2.neTC (hu : X.A.units + 64 < cLine) (hc : own[m]? = some (.lst ((bs.map tupI).map R.d))) (h : Q own (.d (.bl (!decide (bs = as))))) : O2 X F (.cmp .NotEq) (.c m) (.d (.lst (as.map tupI))) Q own := O2.neC (f := tupI) Enc.int.tup hu hc h
theorem O2.eqTC (hu : X.A.units + 64 < cLine) (hc : own[m]? = some (.lst ((bs.map tupI).map R.d))) (h : Q own (.d (.bl (decide (bs = as))))) : O2 X F (.cmp .Eq) (.c m) (.d (.lst (as.map tupI))) Q own := O2.eqC (f := tupI) Enc.int.tup hu hc h
theorem O2.inIL (hu : X.A.units + 65 < cLine) (h : Q own (.d (.bl (decide (i ∈ ns))))) : O2 X F (.cmp .In) (.d (.int i)) (.d (.lst (ns.map D.int))) Q own := O2.inE (f := D.int) Enc.int hu h
end
end DL

/-! Fw26: list(tuple) that will change; slices told plainly; texts that are short -/
namespace DL
open PySem PySem.Spec PyProof.Rows L2
section
variable {X : Cx} {F : Fm} {own : List Cell} {ρ : Ro} {Q : QE}
theorem Cl.listCT {ds : List D} (h : Q (own ++ [.lst (ds.map R.d)]) (.c own.length)) : Cl X F (.type "list") [.d (.tup ds)] Q own := by
  constructor
  intro ls H vs s1 rr Qv k
  obtain ⟨v, rfl, rv⟩ := rrs1 rr
  obtain ⟨a, xs, rfl, hs, hr⟩ := tup_rr rv
  refine call_list_of.to ⟨a, xs, rfl, .inr (Same.seqT (msk_same _ _) hs), fun p hp => ?_⟩
  have em : msk (F.S0 ++ live ls own ++ [p]) (upd H p (.lst xs)) = msk (F.S0 ++ live ls own) H := by
    rw [msk_upd_in (List.mem_append_right _ (List.mem_singleton.mpr rfl))]
    funext c
    unfold msk
    by_cases hc : c = p
    · subst hc
      rw [if_pos (List.mem_append_right _ (List.mem_singleton.mpr rfl)), hp]
      split <;> rfl
    · simp only [List.mem_append, List.mem_singleton, hc, or_false]
  have z := st0_adopt (c := .lst (ds.map R.d)) s1 (same_new (o := .lst xs) hp) hp (fun z => by cases z) ⟨xs, upd_same, by rw [em]; exact RReps.ofD hr⟩
  exact k _ _ _ (.c own.length) _ z.2 z.1 ⟨p, by rw [← s1.len]; simp, rfl⟩ h
end
theorem cutD_to {ds : List D} {i : Int} (h0 : 0 ≤ i) (h : i ≤ ds.length) : cutD ds none (some i) = ds.take i.toNat := by
  obtain ⟨n, rfl⟩ := Int.eq_ofNat_of_zero_le h0
  unfold cutD
  rw [HT.sIx_none, HT.sIx_nat]
  have : min n ds.length = n := by omega
  simp [this]
theorem cutD_from {ds : List D} {i : Int} (h0 : 0 ≤ i) : cutD ds (some i) none = ds.drop i.toNat := by
  obtain ⟨n, rfl⟩ := Int.eq_ofNat_of_zero_le h0
  unfold cutD
  rw [HT.sIx_none, HT.sIx_nat, Int.toNat_natCast]
  by_cases h : n ≤ ds.length
  · rw [Nat.min_eq_left h, List.take_of_length_le (by rw [List.length_drop]; omega)]
  · rw [Nat.min_eq_right (by omega), Nat.sub_self, List.take_zero, List.drop_of_length_le (by omega)]
/-- a short text of signs -/
def SOk (n : Nat) (s : Str) : Prop := s.length ≤ n ∧ ∀ c ∈ s.cps.toList, c < 0x110000
theorem SOk.lay {n : Nat} {s : Str} (h : SOk n s) : (PyData.str s).canLay0 = true := by
  show PySem.PyData.strOk s = true
  unfold PySem.PyData.strOk
  rw [Array.all_eq_true_iff_forall_mem]
  exact fun c hc => decide_eq_true (h.2 c (Array.mem_toList_iff.mpr hc))
theorem SOk.cut {n : Nat} {s : Str} (h : SOk n s) (lo hi : Option Int) : SOk n (cutS s lo hi) := by
  refine ⟨?_, fun c hc => h.2 c ?_⟩
  · have : (cutS s lo hi).length ≤ s.length := by
      show ((((s.cps.toList.drop _).take _).toArray : Array Nat)).size ≤ s.cps.size
      rw [List.size_toArray, List.length_take, List.length_drop, Array.length_toList]
      omega
    exact Nat.le_trans this h.1
  · exact List.mem_of_mem_drop (List.mem_of_mem_take (by simpa [cutS] using hc))
theorem SOk.app {n m : Nat} {s t : Str} (h : SOk n s) (h' : SOk m t) : SOk (n + m) (s ++ t) := by
  refine ⟨by rw [Str.length_append]; exact Nat.add_le_add h.1 h'.1, fun c hc => ?_⟩
  rw [Str.cps_append, Array.toList_append] at hc
  exact (List.mem_append.mp hc).elim (h.2 c) (h'.2 c)
theorem SOk.mono {n m : Nat} {s : Str} (h : SOk n s) (hm : n ≤ m) : SOk m s := ⟨Nat.le_trans h.1 hm, h.2⟩
theorem SOk.one {n : Nat} {s : Str} {c : Nat} {i : Int} (h : SOk n s) (hi : atI s.cps.toList i = some c) : SOk 1 ⟨#[c]⟩ := ⟨Nat.le_refl _, fun x hx => by
  have hm : c ∈ s.cps.toList := by
    unfold atI at hi
    obtain ⟨j, _, hj⟩ := Option.bind_eq_some_iff.mp hi
    exact List.mem_of_getElem? hj
  have : x = c := by simpa using hx
  rw [this]
  exact h.2 c hm⟩
end DL

namespace DL
open PySem PySem.Spec PyProof.Rows L2
section
variable {X : Cx} {F : Fm} {own : List Cell} {Q : QE}
/-- isinstance of an own list -/
theorem Cl.isiCL {n : Nat} {rs : List R} {c : D} {u : Value} {b : Bool} (h0 : own[n]? = some (.lst rs)) (hc : ∀ G v, Rep X.K G c v → ClsV v u) (hk : PySem.W.kitOne X.K (.type "list") u = some b) (h : Q own (.d (.bl b))) : Cl X F (.builtin "isinstance") [.c n, .d c] Q own := by
  constructor
  intro ls H vs st rr Qv k
  obtain ⟨v, w, rfl, rv, rw'⟩ := rrs2 rr
  obtain ⟨l, hl, rfl⟩ := rv
  obtain ⟨xs, e1, _⟩ := st.at_ n l _ hl h0
  exact call_isi.to ⟨_, w, _, u, b, rfl, hc _ _ rw', .base (.lst e1), hk, k _ _ _ (.d (.bl b)) _ Le.refl st ir_bl h⟩
end
end DL

/-! Fw28: a promise for each case is a promise for all -/
namespace DL
open PySem PySem.Spec PyProof.Rows L2
section
variable {P : Program} {w : World} {K : PySem.W.Frag} {mg : Str → Option Value} {base : Heap} {CX : CXT} {k : Nat} {f : Addr} {fd : FuncData} {ps : List Str}
theorem fn_anyF {ι : Type} {p : ι → Prop} {pre : ι → List D → Prop} {post : List D → D → Prop} (h : ∀ i, p i → FnOk P w K mg base CX k f fd ps (spF K (pre i) post)) : FnOk P w K mg base CX k f fd ps (spF K (fun ds => ∃ i, p i ∧ pre i ds) post) :=
  ⟨fun vs H Q E ⟨S, ds, h1, h2, ⟨i, hp, hi⟩, kk⟩ => (h i hp).len vs H Q E ⟨S, ds, h1, h2, hi, kk⟩, fun A outer s H args us vs Q E hr he hb hv ⟨S, ds, h1, h2, ⟨i, hp, hi⟩, kk⟩ => (h i hp).run A outer s H args us vs Q E hr he hb hv ⟨S, ds, h1, h2, hi, kk⟩⟩
end
end DL

/-! Fw29: what is walked, told once: one rule for loops, one for comprehensions, whatever they walk -/
namespace DL
open PySem PySem.Spec PyProof.Rows L2
/-- the walk hands over ds, one behind another, wherever what is seen stays and the cells are as Stay says -/
def WkD (K : PySem.W.Frag) (F : Fm) (ls : List Addr) (own : List Cell) (H : Hp) (J : It) (ds : List D) (Stay : List Cell → Prop) : Prop :=
  ∀ (F' : Fm) (ls' : List Addr) (own' : List Cell) (H' : Hp), Fle K F F' → ls <+: ls' → Same (F.g ls own H) (F'.g ls' own' H') → Stay own' → St0 K F' ls' own' H' →
    (∀ i, i < ds.length → J.go i H') ∧ J.stop ds.length H' ∧ ∀ i x H'', i < ds.length → J.yld i H' x H'' → St0 K F' ls' own' H'' ∧ Same H' H'' ∧ ∃ d, ds[i]? = some d ∧ Rep K (F'.g ls' own' H'') d x
def wpi (X : Cx) (tg iter : Expr) : TI := fun σ H R => ∀ pins s, Inv X pins σ H s → wpAny (model X.prog X.w) X.A (eval iter X.env) (fun v s1 => wpAny (model X.prog X.w) X.A (pyIter v) (PIE X pins σ tg R) X.xe s1) X.xe s
theorem pi_w {X : Cx} {tg iter : Expr} : PI X tg iter (wpi X tg iter) := ⟨fun pins s σ H R I h => h pins s I⟩
theorem _root_.L2.PI.to {X : Cx} {tg iter : Expr} {wi : TI} {σ : L2.St} {H : Hp} {R : It → Hp → Prop} (p : PI X tg iter wi) (h : wi σ H R) : wpi X tg iter σ H R := fun pins s I => p.run pins s σ H R I h
abbrev QI := List Cell → List D → (List Cell → Prop) → Prop
structure It1 (X : Cx) (F : Fm) (tg iter : Expr) (Q : QI) (own : List Cell) (ρ : Ro) : Prop where
  run : ∀ ls σ H, St0 X.K F ls own H → SRep X.K ls (F.g ls own H) ρ σ → ∀ R : It → Hp → Prop,
    (∀ ls' own' H' J ds Stay, Le F ls own H ls' own' H' → St0 X.K F ls' own' H' → WkD X.K F ls' own' H' J ds Stay → Stay own' → Q own' ds Stay → R J H') → wpi X tg iter σ H R
section
variable {X : Cx} {F : Fm} {tg iter : Expr} {own : List Cell} {ρ : Ro} {Q : QI} {pos p0 : Pos}
/-- a list that is told anew wherever it is looked at -/
theorem wkd_list {K : PySem.W.Frag} {ls : List Addr} {H : Hp} {a : Addr} {ds : List D} {Stay : List Cell → Prop}
    (now : ∀ (F' : Fm) (ls' : List Addr) (own' : List Cell) (H' : Hp), Fle K F F' → ls <+: ls' → Same (F.g ls own H) (F'.g ls' own' H') → Stay own' → St0 K F' ls' own' H' → ∃ xs, SqL K H' a xs ∧ Reps K (F'.g ls' own' H') ds xs) : WkD K F ls own H (Itl K a) ds Stay := by
  intro F' ls' own' H' fl pre sm sy st
  obtain ⟨xs, q, hr⟩ := now F' ls' own' H' fl pre sm sy st
  have w := walk_list (K := K) (a := a) (xs := xs)
  rw [hr.length]
  refine ⟨fun i hi => w.goes i H' hi q, w.stops H' q, fun i x H'' hi y => ?_⟩
  obtain ⟨rfl, hx⟩ := w.yields i H' x H'' hi q y
  obtain ⟨d, hd⟩ : ∃ d, ds[i]? = some d := ⟨ds[i]'(by rw [hr.length]; exact hi), List.getElem?_eq_getElem _⟩
  obtain ⟨z, e1, e2⟩ := hr.get hd
  rw [hx] at e1; cases e1
  exact ⟨st, Same.refl _, d, hd, e2⟩
theorem wkd_tup {K : PySem.W.Frag} {ls : List Addr} {H : Hp} {a : Addr} {xs : List V} {ds : List D} (hr : Reps K (F.g ls own H) ds xs) (hq : SqT K (F.g ls own H) a xs) : WkD K F ls own H (Itt K a) ds (fun _ => True) := by
  intro F' ls' own' H' fl pre sm sy st
  have q := Same.seqT (msk_same _ _) (Same.seqT sm hq)
  have w := walk_tup (K := K) (a := a) (xs := xs)
  rw [hr.length]
  refine ⟨fun i hi => w.goes i H' hi q, w.stops H' q, fun i x H'' hi y => ?_⟩
  obtain ⟨rfl, hx⟩ := w.yields i H' x H'' hi q y
  obtain ⟨d, hd⟩ : ∃ d, ds[i]? = some d := ⟨ds[i]'(by rw [hr.length]; exact hi), List.getElem?_eq_getElem _⟩
  obtain ⟨z, e1, e2⟩ := hr.get hd
  rw [hx] at e1; cases e1
  exact ⟨st, Same.refl _, d, hd, Rep.mono sm e2⟩
theorem lst_rr2 {K ls G v} {ds : List D} (h : RRep K ls G (.d (.lst ds)) v ∨ RRep K ls G (.d (.rol ds)) v) : ∃ p xs, v = .ref p ∧ SqL K G p xs ∧ Reps K G ds xs := by
  rcases h with h | h
  · obtain ⟨p, xs, e, g1, g2⟩ := lst_rr h
    exact ⟨p, xs, e, .inl (.inl g1), g2⟩
  · simpa only [RRep, Rep] using h
/-- for .. in a list of data -/
theorem It1.lst (h : E X F iter (fun o r => ∃ ds, (r = .d (.lst ds) ∨ r = .d (.rol ds)) ∧ Q o ds (fun _ => True)) own ρ) : It1 X F tg iter Q own ρ := by
  constructor
  intro ls σ H st sr R k
  refine (pi_list pe_we).to ?_
  refine h ls σ H st sr _ fun ls1 own1 H1 r v l1 s1 rr ⟨ds, er, q⟩ => ?_
  have rr2 : RRep X.K ls1 (F.g ls1 own1 H1) (.d (.lst ds)) v ∨ RRep X.K ls1 (F.g ls1 own1 H1) (.d (.rol ds)) v := by
    rcases er with rfl | rfl
    · exact .inl rr
    · exact .inr rr
  obtain ⟨p, xs, rfl, hq, hr⟩ := lst_rr2 rr2
  exact ⟨p, rfl, ⟨xs, (msk_same _ _).seq hq⟩, k _ _ _ _ ds _ l1 s1 (wkd_list fun F' ls' own' H' fl pre sm sy st => ⟨xs, (msk_same _ _).seq (sm.seq hq), Reps.mono sm hr⟩) True.intro q⟩
/-- .. in a tuple -/
theorem It1.tup (h : E X F iter (fun o r => ∃ ds, r = .d (.tup ds) ∧ Q o ds (fun _ => True)) own ρ) : It1 X F tg iter Q own ρ := by
  constructor
  intro ls σ H st sr R k
  refine (pi_tup pe_we).to ?_
  refine h ls σ H st sr _ fun ls1 own1 H1 r v l1 s1 rr ⟨ds, er, q⟩ => ?_
  subst er
  obtain ⟨p, xs, rfl, hq, hr⟩ := tup_rr rr
  exact ⟨p, rfl, ⟨xs, Same.seqT (msk_same _ _) hq⟩, k _ _ _ _ ds _ l1 s1 (wkd_tup hr hq) True.intro q⟩
/-- .. in a lent list -/
theorem It1.lent (h : E X F iter (fun o r => ∃ p ds, r = .d (.ref p) ∧ Brw X.K F p ds ∧ Q o ds (fun _ => True)) own ρ) : It1 X F tg iter Q own ρ := by
  constructor
  intro ls σ H st sr R k
  refine (pi_list pe_we).to ?_
  refine h ls σ H st sr _ fun ls1 own1 H1 r v l1 s1 rr ⟨p, ds, er, b, q⟩ => ?_
  subst er
  cases rr_ref rr
  obtain ⟨xs, hx1, hr⟩ := b.now s1
  refine ⟨p, rfl, ⟨xs, .inl (.inl hx1)⟩, k _ _ _ _ ds _ l1 s1 (wkd_list fun F' ls' own' H' fl pre sm sy st => ?_) True.intro q⟩
  obtain ⟨ys, g1, g2⟩ := (fl p ds b).now st
  exact ⟨ys, .inl (.inl g1), g2⟩
/-- .. in an own list of data -/
theorem It1.cell (h : E X F iter (fun o r => ∃ n ds, r = .c n ∧ o[n]? = some (.lst (ds.map R.d)) ∧ Q o ds (fun o' => o'[n]? = some (.lst (ds.map R.d)))) own ρ) : It1 X F tg iter Q own ρ := by
  constructor
  intro ls σ H st sr R k
  refine (pi_list pe_we).to ?_
  refine h ls σ H st sr _ fun ls1 own1 H1 r v l1 s1 rr ⟨n, ds, er, hc, q⟩ => ?_
  subst er
  obtain ⟨p, hl, rfl⟩ := rr
  obtain ⟨xs, g1, g2⟩ := s1.at_ n p _ hl hc
  refine ⟨p, rfl, ⟨xs, .inl (.inl g1)⟩, k _ _ _ _ ds _ l1 s1 (wkd_list fun F' ls' own' H' fl pre sm sy st => ?_) hc q⟩
  obtain ⟨ys, f1, f2⟩ := st.at_ n p _ (pre_get pre hl) sy
  exact ⟨ys, .inl (.inl f1), RReps.toD f2⟩
theorem It1.seq (h : E X F iter (fun o r => ∃ ds, r = .d (.lst ds) ∧ Q o ds (fun _ => True)) own ρ) : It1 X F tg iter Q own ρ :=
  It1.lst (h.mono fun o r ⟨ds, e, q⟩ => ⟨ds, .inl e, q⟩)
theorem It1.isq {r : R} {ds : List D} (q : IsSeq X.K F r ds) (h : E X F iter (fun o r' => r' = r ∧ Q o ds (fun _ => True)) own ρ) : It1 X F tg iter Q own ρ := by
  rcases q with rfl | rfl | ⟨p, rfl, b⟩
  · exact It1.lst (h.mono fun o r' ⟨e, q⟩ => ⟨ds, .inl e, q⟩)
  · exact It1.tup (h.mono fun o r' ⟨e, q⟩ => ⟨ds, e, q⟩)
  · exact It1.lent (h.mono fun o r' ⟨e, q⟩ => ⟨p, ds, e, b, q⟩)
theorem wkd_range {K : PySem.W.Frag} {ls : List Addr} {H : Hp} {lo : Int} {n : Nat} : WkD K F ls own H (Itr lo n) ((List.range n).map fun (i : Nat) => D.int (lo + (i : Int))) (fun _ => True) := by
  intro F' ls' own' H' fl pre sm sy st
  have w := walk_range (lo := lo) (n := n)
  have hl : ((List.range n).map fun (i : Nat) => D.int (lo + (i : Int))).length = n := by simp
  rw [hl]
  refine ⟨fun i hi => w.goes i H' hi True.intro, w.stops H' True.intro, fun i x H'' hi y => ?_⟩
  obtain ⟨rfl, rfl⟩ := w.yields i H' x H'' hi True.intro y
  exact ⟨st, Same.refl _, .int (lo + (i : Int)), by simp [hi], by simp only [Rep]⟩
/-- .. in range(a) -/
theorem It1.range {a : Expr} (hm : X.mg "range" = none) (h : E X F a (fun o r => ∃ m : Int, r = .d (.int m) ∧ (-(2 ^ 62) ≤ m ∧ m < 2 ^ 62) ∧ Q o ((List.range m.toNat).map fun (i : Nat) => D.int (i : Int)) (fun _ => True)) own ρ)
    (hg : Gl X "range" := by rfl) (hst : starEach [a] X.env = [(false, eval a X.env)] := by rfl) : It1 X F tg (.Call (.Name "range" p0) [a] [] pos) Q own ρ := by
  constructor
  intro ls σ H st sr R k
  refine (pi_range1 hg hm (pa_cons pe_we pa_nil hst) hst).to ?_
  refine h ls σ H st sr _ fun ls1 own1 H1 r v l1 s1 rr ⟨m, er, hb, q⟩ => ?_
  subst er
  cases rr_int rr
  refine ⟨m, rfl, hb.1, hb.2, k _ _ _ _ _ _ l1 s1 wkd_range True.intro ?_⟩
  simpa using q
/-- .. in range(a, b) -/
theorem It1.range2 {a b : Expr} (hm : X.mg "range" = none) (h : E X F a (fun o r => E X F b (fun o2 r2 => ∃ l m : Int, r = .d (.int l) ∧ r2 = .d (.int m) ∧ (-(2 ^ 62) ≤ l ∧ l < 2 ^ 62 ∧ -(2 ^ 62) ≤ m ∧ m < 2 ^ 62) ∧ Q o2 ((List.range (m - l).toNat).map fun (i : Nat) => D.int (l + (i : Int))) (fun _ => True)) o ρ) own ρ)
    (hg : Gl X "range" := by rfl) (hst : starEach [a, b] X.env = [(false, eval a X.env), (false, eval b X.env)] := by rfl) (hst2 : starEach [b] X.env = [(false, eval b X.env)] := by rfl) : It1 X F tg (.Call (.Name "range" p0) [a, b] [] pos) Q own ρ := by
  constructor
  intro ls σ H st sr R k
  refine (pi_range2 hg hm (pa_cons pe_we (pa_cons pe_we pa_nil hst2) (by rw [hst, hst2])) hst hst2).to ?_
  refine h ls σ H st sr _ fun ls1 own1 H1 r v l1 s1 rr he => ?_
  refine he ls1 σ H1 s1 (sr.up l1.pre l1.same) _ fun ls2 own2 H2 r2 v2 l2 s2 rr2 ⟨l, m, er, er2, hb, q⟩ => ?_
  subst er; subst er2
  cases rr_int rr
  cases rr_int rr2
  exact ⟨l, m, rfl, hb, k _ _ _ _ _ _ (l1.trans l2) s2 wkd_range True.intro q⟩
theorem same_pair {K : PySem.W.Frag} {ls : List Addr} {H : Hp} {T : Addr} {o : HO} (st : St0 K F ls own H) (hT : H T = none) : St0 K F ls own (upd H T o) ∧ Same H (upd H T o) := ⟨st.grow (same_new hT), same_new hT⟩
/-- pairs handed over anew at each turn -/
theorem wkd_pair {K : PySem.W.Frag} {ls : List Addr} {H : Hp} {J : It} {n : Nat} {as bs : List D} {Stay : List Cell → Prop} (ha : as.length = n) (hb : bs.length = n)
    (now : ∀ (F' : Fm) (ls' : List Addr) (own' : List Cell) (H' : Hp), Fle K F F' → ls <+: ls' → Same (F.g ls own H) (F'.g ls' own' H') → Stay own' → St0 K F' ls' own' H' →
      ∃ (G : Hp → Prop) (xs ys : Nat → Option V), Walk J n G (YPair xs ys) ∧ G H' ∧ (∀ i d x, as[i]? = some d → xs i = some x → Rep K (F'.g ls' own' H') d x) ∧ ∀ i d x, bs[i]? = some d → ys i = some x → Rep K (F'.g ls' own' H') d x) :
    WkD K F ls own H J ((as.zip bs).map fun p => .tup [p.1, p.2]) Stay := by
  intro F' ls' own' H' fl pre sm sy st
  obtain ⟨G, xs, ys, w, g, h1, h2⟩ := now F' ls' own' H' fl pre sm sy st
  have hl : ((as.zip bs).map fun p => D.tup [p.1, p.2]).length = n := by simp [ha, hb]
  rw [hl]
  refine ⟨fun i hi => w.goes i H' hi g, w.stops H' g, fun i v H'' hi yy => ?_⟩
  obtain ⟨T, x, y, rfl, hT, rfl, e1, e2⟩ := w.yields i H' v H'' hi g yy
  obtain ⟨st', sm'⟩ := same_pair (o := .tup [x, y]) st hT
  have hi1 : i < as.length := by omega
  have hi2 : i < bs.length := by omega
  have r1 := h1 i _ x (List.getElem?_eq_getElem hi1) e1
  have r2 := h2 i _ y (List.getElem?_eq_getElem hi2) e2
  refine ⟨st', sm', .tup [as[i], bs[i]], ?_, ?_⟩
  · rw [List.getElem?_map, List.getElem?_eq_getElem (by simp; omega)]
    simp
  · simp only [Rep]
    exact ⟨T, _, rfl, st.seen hT, Reps.cons (Rep.mono (msk_mono sm') r1) (Reps.cons (Rep.mono (msk_mono sm') r2) Reps.nil)⟩

theorem reps_at {K : PySem.W.Frag} {G : Hp} {ds : List D} {xs : List V} (hr : Reps K G ds xs) : ∀ (i : Nat) (d : D) (x : V), ds[i]? = some d → xs[i]? = some x → Rep K G d x := fun i d x e1 e2 => by
  obtain ⟨z, f1, f2⟩ := hr.get e1
  rw [e2] at f1; cases f1; exact f2
/-- the common part of two lists of data -/
theorem zip_take {α β : Type} : ∀ (as : List α) (bs : List β) (n : Nat), n = min as.length bs.length → (as.take n).zip (bs.take n) = as.zip bs
  | [], bs, n, h => by simp
  | a :: as, [], n, h => by simp at h; subst h; simp
  | a :: as, b :: bs, 0, h => by simp at h
  | a :: as, b :: bs, n + 1, h => by
    simp only [List.take_succ_cons, List.zip_cons_cons]
    rw [zip_take as bs n (by simp at h; omega)]
/-- for .. in zip(a, b): both lists, or both tuples -/
theorem It1.zip {a b : Expr} {tp : Pos} {elts : List Expr} {kk : Nat} (hm : X.mg "zip" = none) (h : E X F a (fun o r => E X F b (fun o2 r2 => ∃ as bs : List D, ((r = .d (.lst as) ∧ r2 = .d (.lst bs)) ∨ (r = .d (.tup as) ∧ r2 = .d (.tup bs))) ∧ Q o2 ((as.zip bs).map fun p => .tup [p.1, p.2]) (fun _ => True)) o ρ) own ρ)
    (hg : Gl X "zip" := by rfl) (hst : starEach [a, b] X.env = (false, eval a X.env) :: starEach [b] X.env := by rfl) (hst2 : starEach [b] X.env = (false, eval b X.env) :: starEach [] X.env := by rfl) (hpl : (backTo pos (starEach [b] X.env)).any (·.1) = false := by rfl) :
    It1 X F (.Tuple elts kk tp) (.Call (.Name "zip" p0) [a, b] [] pos) Q own ρ := by
  constructor
  intro ls σ H st sr R k
  refine (RZ.pi_zipA hg hm (pa_cons pe_we (pa_cons pe_we pa_nil hst2) hst) hst hpl).to ?_
  refine h ls σ H st sr _ fun ls1 own1 H1 r v l1 s1 rr he => ?_
  refine he ls1 σ H1 s1 (sr.up l1.pre l1.same) _ fun ls2 own2 H2 r2 v2 l2 s2 rr2 ⟨as, bs, er, q⟩ => ?_
  rcases er with ⟨rfl, rfl⟩ | ⟨rfl, rfl⟩
  · obtain ⟨p, xs, rfl, hs, hr⟩ := lst_rr (rr.up l2.pre l2.same)
    obtain ⟨p2, ys, rfl, hs2, hr2⟩ := lst_rr rr2
    refine ⟨p, p2, xs, ys, rfl, .inl ⟨sq_h hs, sq_h hs2, k _ _ _ _ _ (fun _ => True) (l1.trans l2) s2 ?_ True.intro q⟩⟩
    have ex : min as.length bs.length = min xs.length ys.length := by rw [hr.length, hr2.length]
    rw [← zip_take as bs _ rfl]
    refine wkd_pair (n := min as.length bs.length) (by simp) (by simp) fun F' ls' own' H' fl pre sm sy st => ⟨_, _, _, walk_zip ex, ⟨sq_h (sm _ _ hs), sq_h (sm _ _ hs2)⟩, fun i d x e1 e2 => ?_, fun i d x e1 e2 => ?_⟩
    · rw [List.getElem?_take] at e1
      split at e1
      · exact Rep.mono sm (reps_at hr i d x e1 e2)
      · cases e1
    · rw [List.getElem?_take] at e1
      split at e1
      · exact Rep.mono sm (reps_at hr2 i d x e1 e2)
      · cases e1
  · obtain ⟨p, xs, rfl, hs, hr⟩ := tup_rr (rr.up l2.pre l2.same)
    obtain ⟨p2, ys, rfl, hs2, hr2⟩ := tup_rr rr2
    refine ⟨p, p2, xs, ys, rfl, .inr ⟨Same.seqT (msk_same _ _) hs, Same.seqT (msk_same _ _) hs2, k _ _ _ _ _ (fun _ => True) (l1.trans l2) s2 ?_ True.intro q⟩⟩
    have ex : min as.length bs.length = min xs.length ys.length := by rw [hr.length, hr2.length]
    rw [← zip_take as bs _ rfl]
    refine wkd_pair (n := min as.length bs.length) (by simp) (by simp) fun F' ls' own' H' fl pre sm sy st => ⟨fun H => SqT X.K H p xs ∧ SqT X.K H p2 ys, (fun i => xs[i]?), (fun i => ys[i]?), ?_, ⟨Same.seqT (msk_same _ _) (Same.seqT sm hs), Same.seqT (msk_same _ _) (Same.seqT sm hs2)⟩, fun i d x e1 e2 => ?_, fun i d x e1 e2 => ?_⟩
    · rw [ex]
      refine ⟨fun i _ hi q => ?_, fun _ q => ⟨xs, ys, q.1, q.2, by omega⟩, fun i H v H' _ q y => ?_⟩
      · have h1 : i < xs.length := by omega
        have h2 : i < ys.length := by omega
        exact ⟨xs, ys, xs[i], ys[i], q.1, q.2, by simp [h1], by simp [h2]⟩
      · obtain ⟨T, x, z, h1, h2, h3, h4, h5⟩ := y
        exact ⟨T, x, z, h1, h2, h3, h4 xs q.1, h5 ys q.2⟩
    · rw [List.getElem?_take] at e1
      split at e1
      · exact Rep.mono sm (reps_at hr i d x e1 e2)
      · cases e1
    · rw [List.getElem?_take] at e1
      split at e1
      · exact Rep.mono sm (reps_at hr2 i d x e1 e2)
      · cases e1
/-- for i, x in enumerate(a list) -/
theorem It1.enum {a : Expr} {tp : Pos} {elts : List Expr} {kk : Nat} (hm : X.mg "enumerate" = none) (h : E X F a (fun o r => ∃ as : List D, (r = .d (.lst as) ∨ r = .d (.rol as)) ∧ Q o ((((List.range as.length).map fun (i : Nat) => D.int (i : Int)).zip as).map fun p => .tup [p.1, p.2]) (fun _ => True)) own ρ)
    (hg : Gl X "enumerate" := by rfl) (hst : starEach [a] X.env = [(false, eval a X.env)] := by rfl) :
    It1 X F (.Tuple elts kk tp) (.Call (.Name "enumerate" p0) [a] [] pos) Q own ρ := by
  constructor
  intro ls σ H st sr R k
  refine (pi_enum hg hm (pa_cons pe_we pa_nil hst) hst).to ?_
  refine h ls σ H st sr _ fun ls1 own1 H1 r v l1 s1 rr ⟨as, er, q⟩ => ?_
  have rr2 : RRep X.K ls1 (F.g ls1 own1 H1) (.d (.lst as)) v ∨ RRep X.K ls1 (F.g ls1 own1 H1) (.d (.rol as)) v := by
    rcases er with rfl | rfl
    · exact .inl rr
    · exact .inr rr
  obtain ⟨p, xs, rfl, hq, hr⟩ := lst_rr2 rr2
  refine ⟨p, xs, rfl, (msk_same _ _).seq hq, k _ _ _ _ _ (fun _ => True) l1 s1 ?_ True.intro q⟩
  refine wkd_pair (n := as.length) (by simp) rfl fun F' ls' own' H' fl pre sm sy st => ⟨_, _, _, by rw [hr.length]; exact walk_enum, (msk_same _ _).seq (sm.seq hq), fun i d x e1 e2 => ?_, fun i d x e1 e2 => Rep.mono sm (reps_at hr i d x e1 e2)⟩
  have hi : i < as.length := by
    have := (List.getElem?_eq_some_iff.mp e1).1
    simpa using this
  simp [hi] at e1
  subst e1
  cases e2
  simp only [Rep]
/-- for c in a text -/
theorem It1.str (h : E X F iter (fun o r => ∃ s : Str, r = .d (.str s) ∧ Q o (s.cps.toList.map fun c => .str ⟨#[c]⟩) (fun _ => True)) own ρ) : It1 X F tg iter Q own ρ := by
  constructor
  intro ls σ H st sr R k
  refine (pi_str pe_we).to ?_
  refine h ls σ H st sr _ fun ls1 own1 H1 r v l1 s1 rr ⟨s, er, q⟩ => ?_
  subst er
  cases rr_str rr
  refine ⟨s, rfl, k _ _ _ _ _ (fun _ => True) l1 s1 ?_ True.intro q⟩
  intro F' ls' own' H' fl pre sm sy st
  have w := walk_str (z := s)
  have hl : (s.cps.toList.map fun c => D.str ⟨#[c]⟩).length = s.cps.size := by simp
  rw [hl]
  refine ⟨fun i hi => w.goes i H' hi True.intro, w.stops H' True.intro, fun i x H'' hi y => ?_⟩
  obtain ⟨rfl, c, hc, rfl⟩ := w.yields i H' x H'' hi True.intro y
  refine ⟨st, Same.refl _, .str ⟨#[c]⟩, ?_, by simp only [Rep]⟩
  rw [List.getElem?_map, Array.getElem?_toList, hc]
  rfl
/-! ### for -/
/-- the rule for all loops -/
theorem W1.forI {body : List Stmt} {P : Po} (I : Nat → List Cell → Ro → Prop) (hc : X.calm = true) (hp : PassesOwn (model X.prog X.w) X.A X.env X.xe)
    (h : It1 X F tg iter (fun o ds Stay => I 0 o ρ ∧ (∀ i o' ρ', I i o' ρ' → Stay o') ∧ (∀ i d o' ρ', ds[i]? = some d → I i o' ρ' → Tg X F tg (.d d) (fun o2 ρ2 => W X F body { nx := I (i + 1), rt := P.rt, bk := P.nx, ct := I (i + 1) } o2 ρ2) o' ρ') ∧ ∀ o' ρ', I ds.length o' ρ' → P.nx o' ρ') own ρ)
    (hs : ∀ x, foldedSetIterable iter X.env x = pure x := by intro _; rfl) : W1 X F (.For tg iter body [] pos) P own ρ := by
  constructor
  intro ls σ H s0 sr De k
  refine (ps_for hp hc pi_w pg_w pss_ws hs).to ?_
  refine h.run ls σ H s0 sr _ fun ls1 own1 H1 J ds Stay l1 s1 wk _ ⟨i0, stay, turn, fin⟩ => ?_
  have W0 : Walk J ds.length (fun H' => ∃ ls2 own2, ls1 <+: ls2 ∧ Same (F.g ls1 own1 H1) (F.g ls2 own2 H') ∧ Stay own2 ∧ St0 X.K F ls2 own2 H') fun i H' x H'' => ∀ ls2 own2, ls1 <+: ls2 → Same (F.g ls1 own1 H1) (F.g ls2 own2 H') → Stay own2 → St0 X.K F ls2 own2 H' → St0 X.K F ls2 own2 H'' ∧ Same H' H'' ∧ ∃ d, ds[i]? = some d ∧ Rep X.K (F.g ls2 own2 H'') d x :=
    ⟨fun i H' hi ⟨ls2, own2, p, sm, sy, st⟩ => (wk F ls2 own2 H' Fle.refl p sm sy st).1 i hi, fun H' ⟨ls2, own2, p, sm, sy, st⟩ => (wk F ls2 own2 H' Fle.refl p sm sy st).2.1,
      fun i H' x H'' hi _ y ls2 own2 p sm sy st => (wk F ls2 own2 H' Fle.refl p sm sy st).2.2 i x H'' hi y⟩
  refine for_it W0 (Pv X F ls1 own1 H1 I) ⟨ls1, own1, ρ, Le.refl, s1, sr.up l1.pre l1.same, i0⟩ (fun i σ' H' _ ⟨ls2, own2, ρ2, l2, s2, sr2, ii⟩ => ⟨ls2, own2, l2.pre, l2.same, stay _ _ _ ii, s2⟩) ?_ ?_
  · rintro i x σ' H' H'' hi ⟨ls2, own2, ρ2, l2, s2, sr2, ii⟩ y
    obtain ⟨s3, sm, d, hd, rd⟩ := y ls2 own2 l2.pre l2.same (stay _ _ _ ii) s2
    have l3 : Le F ls2 own2 H' ls2 own2 H'' := Le.grow sm
    refine turn i d own2 ρ2 hd ii ls2 σ' H'' x s3 (sr2.up l3.pre l3.same) rd _ fun ls4 own4 H4 ρ4 σ4 l4 s4 sr4 q => ?_
    have l5 := (l2.trans l3).trans l4
    exact q ls4 σ4 H4 s4 sr4 _ ⟨fun _ _ _ _ _ l s r q => ⟨_, _, _, l5.trans l, s, r, q⟩, fun _ _ _ _ _ l s r q => k.rt _ _ _ _ _ (l1.trans (l5.trans l)) s r q, fun _ _ _ _ _ l s r q => k.nx _ _ _ _ _ (l1.trans (l5.trans l)) s r q, fun _ _ _ _ _ l s r q => ⟨_, _, _, l5.trans l, s, r, q⟩⟩
  · rintro σ' H' ⟨ls2, own2, ρ2, l2, s2, sr2, ii⟩
    exact k.nx _ _ _ _ _ (l1.trans l2) s2 sr2 (fin _ _ ii)
end
end DL

/-! Fw30: comprehensions, told once: as a value, and stored in a name at once -/
namespace DL
open PySem PySem.Spec PyProof.Rows L2
/-- what a comprehension's parts are read by -/
structure LcS (X : Cx) (elt tg iter : Expr) (ifs : List Expr) (scope : Scope) where
  own : List (Str × Nat)
  wi : TI
  g : TG
  tt : TT
  te : TE
  hi : PI X tg iter wi
  ok : BlkOk X.N X.env.scope scope own
  hg : ∀ (s : Shared) (H : Hp) (C : Addr) (cl : List (Str × Addr)) (fp : List Addr), PG (X.blk s H scope (compEnvC scope cl C X.env) fp) tg g
  ht : ∀ (s : Shared) (H : Hp) (C : Addr) (cl : List (Str × Addr)) (fp : List Addr), PTs (X.blk s H scope (compEnvC scope cl C X.env) fp) ifs tt
  he : ∀ (s : Shared) (H : Hp) (C : Addr) (cl : List (Str × Addr)) (fp : List Addr), PE (X.blk s H scope (compEnvC scope cl C X.env) fp) elt te
def wlc (X : Cx) (elt tg iter : Expr) (ifs : List Expr) (scope : Scope) : TE := fun σ H Q => ∃ S : LcS X elt tg iter ifs scope, tLc S.wi S.g S.tt S.te (S.own.map (·.2)) σ H Q
structure Lc (X : Cx) (F : Fm) (elt tg iter : Expr) (ifs : List Expr) (scope : Scope) (Q : QE) (own : List Cell) (ρ : Ro) : Prop where
  run : ∀ ls σ H, St0 X.K F ls own H → SRep X.K ls (F.g ls own H) ρ σ → ∀ Qv : VK, KV' X F ls own H Q Qv → wlc X elt tg iter ifs scope σ H Qv
section
variable {X : Cx} {F : Fm} {scope : Scope} {elt tg iter : Expr} {ifs : List Expr} {own : List Cell} {ρ : Ro} {Q : QE} {pos : Pos}
theorem Lc.e (h : Lc X F elt tg iter ifs scope Q own ρ) (hc : X.calm = true) (nd : X.N.Nodup) (hs : ∀ x, foldedSetIterable iter X.env x = pure x := by intro _; rfl) : E X F (.ListComp elt [⟨tg, iter, ifs, 0⟩] scope pos) Q own ρ := .mk fun ls σ H st sr Qv k => by
  obtain ⟨S, q⟩ := h.run ls σ H st sr Qv k
  exact (pe_lc hc nd S.hi S.ok S.hg S.ht S.he hs).to q
/-- name = [..] on one line -/
theorem W1.setLc (i : Nat) {x : Str} {py spos : Pos} {P : Po} (h : Lc X F elt tg iter ifs scope (fun o r => P.nx o (ρ.set i (some r))) own ρ) (hc : X.calm = true) (nd : X.N.Nodup) (hi : X.N[i]? = some x := by rfl) (hyl : X.env.scope.names.lookup x = some .local := by rfl)
    (hs : ∀ x, foldedSetIterable iter X.env x = pure x := by intro _; rfl) (hk : X.env.scope.kind = .function := by rfl) (hl : (py.line == pos.line) = true := by rfl) (ha : (scope.names.any fun (n, k) => n == x && (k == .local || k == .cell)) = false := by decide +kernel) :
    W1 X F (.Assign [.Name x py] (.ListComp elt [⟨tg, iter, ifs, 0⟩] scope pos) spos) P own ρ := by
  constructor
  intro ls σ H s0 sr De k
  obtain ⟨S, q⟩ := h.run ls σ H s0 sr (fun v H' => gName i v σ H' De.nx) fun ls' own' H' r v l s rr q => k.nx _ _ _ _ _ l s (SRep.set rr i (sr.up l.pre l.same)) q
  exact (ps_setLc hc nd hi hyl (sw_true hk hyl hl ha) S.hi S.ok S.hg S.ht S.he hs).to q
end
/-! ### targets -/
def setL (σ : L2.St) : List Nat → List V → L2.St
  | i :: is, x :: xs => setL (σ.set i (some x)) is xs
  | _, _ => σ
def setR (ρ : Ro) : List Nat → List D → Ro
  | i :: is, d :: ds => setR (ρ.set i (some (.d d))) is ds
  | _, _ => ρ
theorem setR_rep {K : PySem.W.Frag} {ls : List Addr} {G : Hp} : ∀ {is : List Nat} {ds : List D} {xs : List V} {ρ : Ro} {σ : L2.St}, Reps K G ds xs → SRep K ls G ρ σ → SRep K ls G (setR ρ is ds) (setL σ is xs)
  | [], _, _, _, _, _, h => h
  | i :: is, [], xs, _, _, hr, h => by simp only [Reps] at hr; subst hr; exact h
  | i :: is, d :: ds, xs, _, _, hr, h => by
    simp only [Reps] at hr
    obtain ⟨x, r, rfl, h2, h3⟩ := hr
    exact setR_rep (is := is) h3 (SRep.set (r := .d d) h2 i h)
theorem wipe_get : ∀ (vs : List Nat) (σ : L2.St) (k : Nat), (L2.wipe σ vs)[k]? = if k ∈ vs ∧ k < σ.length then some none else σ[k]?
  | [], σ, k => by simp [L2.wipe]
  | v :: vs, σ, k => by
    have ih := wipe_get vs σ k
    simp only [L2.wipe, List.getElem?_set, wipe_length, ih, List.mem_cons]
    by_cases h1 : v = k
    · subst h1
      by_cases h2 : v < σ.length <;> simp [h2]
    · have h1' : ¬ k = v := fun z => h1 z.symm
      simp [h1, h1']
theorem setL_out : ∀ (is : List Nat) (xs : List V) (σ : L2.St) (k : Nat), k ∉ is → (setL σ is xs)[k]? = σ[k]?
  | [], _, σ, k, _ => rfl
  | i :: is, [], σ, k, _ => rfl
  | i :: is, x :: xs, σ, k, h => by
    simp only [List.mem_cons, not_or] at h
    show (setL (σ.set i (some x)) is xs)[k]? = _
    rw [setL_out is xs _ k h.2, List.getElem?_set]
    simp [show ¬ i = k from fun z => h.1 z.symm]
theorem setL_length : ∀ (is : List Nat) (xs : List V) (σ : L2.St), (setL σ is xs).length = σ.length
  | [], _, σ => rfl
  | i :: is, [], σ => rfl
  | i :: is, x :: xs, σ => by
    show (setL (σ.set i (some x)) is xs).length = _
    rw [setL_length, List.length_set]
theorem wipe_setL {σ : L2.St} {is : List Nat} {xs : List V} : L2.wipe (setL (L2.wipe σ is) is xs) is = L2.wipe σ is := by
  refine List.ext_getElem? fun k => ?_
  rw [wipe_get, wipe_get, setL_length, wipe_length]
  by_cases h : k ∈ is
  · by_cases h2 : k < σ.length
    · simp [h, h2]
    · simp only [h, h2, and_false, if_false]
      rw [List.getElem?_eq_none (by rw [setL_length, wipe_length]; omega), List.getElem?_eq_none (by omega)]
  · simp only [h, false_and, if_false]
    rw [setL_out _ _ _ _ h, wipe_get]
    simp [h]
/-- a target that stores into the slots is what sp makes of a data -/
structure TgP (X : Cx) (scope : Scope) (tg : Expr) (is : List Nat) (sp : D → List D → Prop) where
  g : TG
  hg : ∀ (s : Shared) (H : Hp) (C : Addr) (cl : List (Str × Addr)) (fp : List Addr), PG (X.blk s H scope (compEnvC scope cl C X.env) fp) tg g
  run : ∀ (S : List Addr) (H : Hp) (d : D) (x : V) (es : List D) (σ : L2.St) (Q : L2.St → Hp → Prop), Rep X.K (msk S H) d x → sp d es → (∀ xs, Reps X.K (msk S H) es xs → Q (setL σ is xs) H) → g x σ H Q
def TgP.name {X : Cx} {scope : Scope} {x : Str} {p : Pos} (i : Nat) (hg : ∀ s H0 C cl fp, PG (bx X scope s H0 C cl fp) (.Name x p) (gName i)) : TgP X scope (.Name x p) [i] (fun d es => es = [d]) where
  g := gName i
  hg := hg
  run S H d x es σ Q hr he k := by
    subst he
    exact k [x] (Reps.cons hr Reps.nil)
def tgTup {X : Cx} {scope : Scope} {tgs : List Expr} {is : List Nat} {k0 : Nat} {p : Pos} (hc : X.calm = true) (gs : TGs) (hl : tgs.length = is.length) (hg : ∀ (s : Shared) (H : Hp) (C : Addr) (cl : List (Str × Addr)) (fp : List Addr), PGs (X.blk s H scope (compEnvC scope cl C X.env) fp) tgs gs)
    (run : ∀ xs σ H Q, xs.length = is.length → Q (setL σ is xs) H → gs xs σ H Q)
    (hn : ∀ (s : Shared) (H : Hp) (C : Addr) (cl : List (Str × Addr)) (fp : List Addr), (assignEach tgs (X.blk s H scope (compEnvC scope cl C X.env) fp).env).length = tgs.length := by intros; rfl)
    (hst : ∀ (s : Shared) (H : Hp) (C : Addr) (cl : List (Str × Addr)) (fp : List Addr), (assignEach tgs (X.blk s H scope (compEnvC scope cl C X.env) fp).env).findIdx? (·.1) = none := by intros; rfl) : TgP X scope (.Tuple tgs k0 p) is (fun d es => d = .tup es ∧ es.length = is.length) where
  g := gTup X.K tgs.length gs
  hg := fun s H C cl fp => pg_tup (X := X.blk s H scope (compEnvC scope cl C X.env) fp) hc (hg s H C cl fp) (hn s H C cl fp) (hst s H C cl fp)
  run S H d x es σ Q hr he k := by
    obtain ⟨rfl, hel⟩ := he
    simp only [Rep] at hr
    obtain ⟨p, xs, rfl, h1, h2⟩ := hr
    exact ⟨p, xs, rfl, Same.seqT (msk_same _ _) (.inl (.inl h1)), by rw [← h2.length, hel, hl], run xs σ H Q (by rw [← h2.length, hel]) (k xs h2)⟩
def TgP.two {X : Cx} {scope : Scope} {x y : Str} {p1 p2 p : Pos} {k0 : Nat} (i j : Nat) (hc : X.calm = true) (hg1 : ∀ s H0 C cl fp, PG (bx X scope s H0 C cl fp) (.Name x p1) (gName i)) (hg2 : ∀ s H0 C cl fp, PG (bx X scope s H0 C cl fp) (.Name y p2) (gName j)) :
    TgP X scope (.Tuple [.Name x p1, .Name y p2] k0 p) [i, j] (fun d es => d = .tup es ∧ es.length = 2) :=
  tgTup hc (gCons (gName i) (gCons (gName j) gNil)) rfl (fun s H C cl fp => pgs_cons (hg1 s H C cl fp) (pgs_cons (hg2 s H C cl fp) pgs_nil)) fun xs σ H Q hl q => match xs, hl with
    | [a, b], _ => ⟨a, [b], rfl, b, [], rfl, rfl, q⟩
/-! ### one rule -/
theorem fD_lends {K : PySem.W.Frag} {F : Fm} {ls : List Addr} {own : List Cell} {H1 : Hp} {D : Addr} (s0 : St0 K F ls own H1) (hD : H1 D = none) : Fle K F (fD F ls own H1 D) := fun p ds b => by
  obtain ⟨xs, h1, h2⟩ := b.at_
  have e1 := s0.keep p _ b.nmu h1
  have hpD : p ≠ D := fun z => by rw [z, hD] at e1; cases e1
  have hpl : p ∉ ls := fun z => (s0.new p z).1 b.hid
  exact ⟨List.mem_append_left _ b.hid, by simp only [List.mem_cons, not_or]; exact ⟨hpD, hpl⟩, xs, by show upd H1 D (.lst []) p = _; rw [upd_ne hpD]; exact e1, Reps.mono s0.as h2⟩
theorem PvC.grow {K : PySem.W.Frag} {F : Fm} {ls : List Addr} {own : List Cell} {H1 : Hp} {D : Addr} {G : Nat → List DL.D → Prop} {i : Nat} {H H' : Hp} (p : PvC K F ls own H1 D G i H) (sm : Same H H') (st : St0 K (fD F ls own H1 D) ls own H') : PvC K F ls own H1 D G i H' := by
  obtain ⟨acc, vs, hd, hr, _, g, hl⟩ := p
  exact ⟨acc, vs, sm _ _ hd, Reps.mono (msk_mono sm) hr, st, g, hl⟩
theorem fD_walk {K : PySem.W.Frag} {F : Fm} {ls : List Addr} {own : List Cell} {H1 : Hp} {D : Addr} {J : It} {ds : List DL.D} {Stay : List Cell → Prop} (s1 : St0 K F ls own H1) (hD : H1 D = none) (wk : WkD K F ls own H1 J ds Stay) (sy : Stay own) :
    Walk J ds.length (fun H' => St0 K (fD F ls own H1 D) ls own H') fun i H' x H'' => St0 K (fD F ls own H1 D) ls own H'' ∧ Same H' H'' ∧ ∃ d, ds[i]? = some d ∧ Rep K (msk (F.S0 ++ [D] ++ live ls own) H'') d x :=
  ⟨fun i H' hi st => (wk _ ls own H' (fD_lends s1 hD) List.prefix_rfl st.as sy st).1 i hi, fun H' st => (wk _ ls own H' (fD_lends s1 hD) List.prefix_rfl st.as sy st).2.1,
    fun i H' x H'' hi st y => (wk _ ls own H' (fD_lends s1 hD) List.prefix_rfl st.as sy st).2.2 i x H'' hi y⟩
section
variable {X : Cx} {F : Fm} {scope : Scope} {elt tg iter t : Expr} {own : List Cell} {ρ : Ro} {Q : QE} {pos : Pos}
theorem Lc.it {sp : D → List D → Prop} (own0 : List (Str × Nat)) (tp : TgP X scope tg (own0.map (·.2)) sp) (ok : BlkOk X.N X.env.scope scope own0)
    (h : It1 X F tg iter (fun o ds _ => ds.length ≤ 100000 ∧ ∃ G : Nat → List D → Prop, G 0 [] ∧ (∀ j d acc, ds[j]? = some d → G j acc → ∃ es, sp d es ∧ ∀ s H0 C cl fp (F' : Fm), Fle X.K F F' → E (bx X scope s H0 C cl fp) F' elt (fun o' r => o' = o ∧ ∃ d', r = .d d' ∧ G (j + 1) (acc ++ [d'])) o (setR (wipeR ρ (own0.map (·.2))) (own0.map (·.2)) es)) ∧ ∀ acc, G ds.length acc → Q o (.d (.lst acc))) own ρ) :
    Lc X F elt tg iter [] scope Q own ρ := by
  constructor
  intro ls σ H st sr Qv k
  refine ⟨⟨own0, wpi X tg iter, tp.g, tYes, wbe X scope elt, pi_w, ok, tp.hg, fun _ _ _ _ _ => pts_nil, fun s H C cl fp => pe_wbe s H C cl fp⟩, ?_⟩
  refine h.run ls σ H st sr _ fun ls1 own1 H1 J ds Stay l1 s1 wk sy ⟨hz, G, g0, turn, fin⟩ => fun D hD => ?_
  refine lc_it (fD_walk s1 hD wk sy) (PvC X.K F ls1 own1 H1 D G) (pvc_start s1 hD g0) (fun j H' _ pv => pv.choose_spec.choose_spec.2.2.1) (fun j x H' H'' hj pv y => ?_) fun H' pv => pvc_end l1 s1 hD pv k fin
  obtain ⟨s2, sm, d, hd, rd⟩ := y
  have pv' := pv.grow sm s2
  obtain ⟨acc, vs, e1, e2, e3, g, e4⟩ := pv'
  obtain ⟨es, he, ht⟩ := turn j d acc hd g
  refine tp.run _ _ d x es _ _ rd he fun xs hxs => ⟨wipe_setL, ?_⟩
  obtain ⟨acc', vs', f1, f2, f3, g', f4⟩ := pv.grow sm s2
  have hsr : SRep X.K ls1 (msk (F.S0 ++ [D] ++ live ls1 own1) H'') (setR (wipeR ρ (own0.map (·.2))) (own0.map (·.2)) es) (setL (L2.wipe σ (own0.map (·.2))) (own0.map (·.2)) xs) := setR_rep hxs (SRep.wipe (sr.up l1.pre (l1.same.trans s2.as)) _)
  unfold tYes; dsimp only
  rw [if_pos rfl]
  exact turn_elt (Nat.lt_of_lt_of_le hj (Nat.le_trans hz (by decide))) e1 e2 e4 e3 (fE_start e3) hsr (fE_lends s1 hD e3) ht
/-- .. with a test -/
theorem Lc.itT {sp : D → List D → Prop} (own0 : List (Str × Nat)) (tp : TgP X scope tg (own0.map (·.2)) sp) (ok : BlkOk X.N X.env.scope scope own0)
    (h : It1 X F tg iter (fun o ds _ => ds.length ≤ 100000 ∧ ∃ G : Nat → List D → Prop, G 0 [] ∧ (∀ j d acc, ds[j]? = some d → G j acc → ∃ es, sp d es ∧ ∀ s H0 C cl fp (F' : Fm), Fle X.K F F' → T (bx X scope s H0 C cl fp) F' t (fun o' b => o' = o ∧ if b = true then ∀ s H0 C cl fp (F' : Fm), Fle X.K F F' → E (bx X scope s H0 C cl fp) F' elt (fun o' r => o' = o ∧ ∃ d', r = .d d' ∧ G (j + 1) (acc ++ [d'])) o (setR (wipeR ρ (own0.map (·.2))) (own0.map (·.2)) es) else G (j + 1) acc) o (setR (wipeR ρ (own0.map (·.2))) (own0.map (·.2)) es)) ∧ ∀ acc, G ds.length acc → Q o (.d (.lst acc))) own ρ) :
    Lc X F elt tg iter [t] scope Q own ρ := by
  constructor
  intro ls σ H st sr Qv k
  refine ⟨⟨own0, wpi X tg iter, tp.g, wbt X scope t, wbe X scope elt, pi_w, ok, tp.hg, fun s H C cl fp => pts_one (pt_wbt s H C cl fp), fun s H C cl fp => pe_wbe s H C cl fp⟩, ?_⟩
  refine h.run ls σ H st sr _ fun ls1 own1 H1 J ds Stay l1 s1 wk sy ⟨hz, G, g0, turn, fin⟩ => fun D hD => ?_
  refine lc_it (fD_walk s1 hD wk sy) (PvC X.K F ls1 own1 H1 D G) (pvc_start s1 hD g0) (fun j H' _ pv => pv.choose_spec.choose_spec.2.2.1) (fun j x H' H'' hj pv y => ?_) fun H' pv => pvc_end l1 s1 hD pv k fin
  obtain ⟨s2, sm, d, hd, rd⟩ := y
  have pv' := pv.grow sm s2
  obtain ⟨acc, vs, e1, e2, e3, g, e4⟩ := pv'
  obtain ⟨es, he, ht⟩ := turn j d acc hd g
  refine tp.run _ _ d x es _ _ rd he fun xs hxs => ⟨wipe_setL, ?_⟩
  have hsr : SRep X.K ls1 (msk (F.S0 ++ [D] ++ live ls1 own1) H'') (setR (wipeR ρ (own0.map (·.2))) (own0.map (·.2)) es) (setL (L2.wipe σ (own0.map (·.2))) (own0.map (·.2)) xs) := setR_rep hxs (SRep.wipe (sr.up l1.pre (l1.same.trans s2.as)) _)
  intro s H0 C cl fp
  refine ht s H0 C cl fp (fE F ls1 own1 H'' D) (fE_lends s1 hD e3) ls1 _ H'' (fE_start e3) hsr _ fun ls3 own3 H3 b l3 s3 ⟨eo, q⟩ => ?_
  subst eo
  have els : ls3 = ls1 := prefix_same l3.pre (by rw [s3.len, e3.len])
  subst els
  cases b with
  | true =>
    refine iteT ?_
    exact turn_elt (Nat.lt_of_lt_of_le hj (Nat.le_trans hz (by decide))) e1 e2 e4 e3 s3 (hsr.up List.prefix_rfl l3.same) (fE_lends s1 hD e3) fun s H0 C cl fp F' => q s H0 C cl fp F'
  | false =>
    refine iteF ?_
    have hD3 : H3 D = some (.lst vs) := s3.keep D _ (fun z => (s3.new D z).1 (by simp)) e1
    have eu : upd H3 D (.lst vs) = H3 := by
      funext b
      by_cases q : b = D
      · rw [q, upd_same, hD3]
      · rw [upd_ne q]
    have fin := fE_end (o := .lst vs) e3 s3 (by rw [hD3]; exact fun z => by cases z) (fun _ z => by cases z)
    rw [eu] at fin
    exact ⟨acc, vs, hD3, Reps.mono s3.as e2, fin, q, Nat.le_succ_of_le e4⟩
/-! ### short rules: maps and filters -/
theorem It1.mono {Q Q' : QI} (k : ∀ o ds S, Q o ds S → Q' o ds S) (h : It1 X F tg iter Q own ρ) : It1 X F tg iter Q' own ρ := ⟨fun ls σ H st sr R kk => h.run ls σ H st sr R fun ls' own' H' J ds Stay le st' wk sy q => kk ls' own' H' J ds Stay le st' wk sy (k _ _ _ q)⟩
theorem take_snoc {α : Type} {ds : List α} {j : Nat} {d : α} (h : ds[j]? = some d) : ds.take (j + 1) = ds.take j ++ [d] := by
  rw [List.take_add_one, h]; rfl
/-- [e for x in ..]: each by itself -/
theorem Lc.map {x : Str} {tp : Pos} (i : Nat) (g : D → D) (ok : BlkOk X.N X.env.scope scope [(x, i)])
    (h : It1 X F (.Name x tp) iter (fun o ds _ => ds.length ≤ 100000 ∧ (∀ d ∈ ds, ∀ s H0 C cl fp (F' : Fm), Fle X.K F F' → E (bx X scope s H0 C cl fp) F' elt (fun o' r => o' = o ∧ r = .d (g d)) o ((ρ.set i none).set i (some (.d d)))) ∧ Q o (.d (.lst (ds.map g)))) own ρ)
    (nd : X.N.Nodup) (hg : ∀ s H0 C cl fp, PG (bx X scope s H0 C cl fp) (.Name x tp) (gName i) := by intro _ _ _ _ _; exact pg_name (by assumption) rfl (Or.inl rfl)) : Lc X F elt (.Name x tp) iter [] scope Q own ρ :=
  Lc.it [(x, i)] (TgP.name i hg) ok (h.mono fun o ds S ⟨z, f, q⟩ => ⟨z, fun j acc => acc = (ds.take j).map g, rfl, fun j d acc hd ha => ⟨[d], rfl, fun s H0 C cl fp F' le => (f d (List.mem_of_getElem? hd) s H0 C cl fp F' le).mono fun o' r ⟨e1, e2⟩ => ⟨e1, g d, e2, by show acc ++ [_] = (ds.take (j + 1)).map g; rw [ha, take_snoc hd]; simp⟩⟩, fun acc ha => by rw [ha, List.take_length]; exact q⟩)
theorem Lc.filt {x : Str} {tp : Pos} (i : Nat) (p : D → Bool) (g : D → D) (ok : BlkOk X.N X.env.scope scope [(x, i)])
    (h : It1 X F (.Name x tp) iter (fun o ds _ => ds.length ≤ 100000 ∧ (∀ d ∈ ds, ∀ s H0 C cl fp (F' : Fm), Fle X.K F F' → T (bx X scope s H0 C cl fp) F' t (fun o' b => o' = o ∧ b = p d) o ((ρ.set i none).set i (some (.d d)))) ∧
      (∀ d ∈ ds, p d = true → ∀ s H0 C cl fp (F' : Fm), Fle X.K F F' → E (bx X scope s H0 C cl fp) F' elt (fun o' r => o' = o ∧ r = .d (g d)) o ((ρ.set i none).set i (some (.d d)))) ∧ Q o (.d (.lst ((ds.filter p).map g)))) own ρ)
    (nd : X.N.Nodup) (hg : ∀ s H0 C cl fp, PG (bx X scope s H0 C cl fp) (.Name x tp) (gName i) := by intro _ _ _ _ _; exact pg_name (by assumption) rfl (Or.inl rfl)) : Lc X F elt (.Name x tp) iter [t] scope Q own ρ := by
  refine Lc.itT [(x, i)] (TgP.name i hg) ok (h.mono fun o ds S ⟨z, ft, fe, q⟩ => ⟨z, fun j acc => acc = ((ds.take j).filter p).map g, rfl, fun j d acc hd ha => ⟨[d], rfl, fun s H0 C cl fp F' le => (ft d (List.mem_of_getElem? hd) s H0 C cl fp F' le).mono fun o' b ⟨e1, e2⟩ => ⟨e1, ?_⟩⟩, fun acc ha => by rw [ha, List.take_length]; exact q⟩)
  subst e1
  have ek : ((ds.take (j + 1)).filter p).map g = acc ++ (if p d = true then [g d] else []) := by
    rw [ha, take_snoc hd, List.filter_append, List.map_append]
    cases hp : p d <;> simp [hp]
  cases b with
  | true =>
    refine iteT fun s H0 C cl fp F' le => ?_
    refine (fe d (List.mem_of_getElem? hd) e2.symm s H0 C cl fp F' le).mono fun o' r ⟨e1, e3⟩ => ⟨e1, g d, e3, ?_⟩
    show _ = ((ds.take (j + 1)).filter p).map g
    rw [ek, ← e2]; rfl
  | false =>
    refine iteF ?_
    show _ = ((ds.take (j + 1)).filter p).map g
    rw [ek, ← e2]; simp
/-- [e for x, y in ..] -/
theorem Lc.map2 {x y : Str} {p1 p2 p3 : Pos} {k0 : Nat} (i j : Nat) (g : D → D) (ok : BlkOk X.N X.env.scope scope [(x, i), (y, j)]) (hc : X.calm = true)
    (h : It1 X F (.Tuple [.Name x p1, .Name y p2] k0 p3) iter (fun o ds _ => ds.length ≤ 100000 ∧ (∀ d ∈ ds, ∃ a b, d = .tup [a, b] ∧ ∀ s H0 C cl fp (F' : Fm), Fle X.K F F' → E (bx X scope s H0 C cl fp) F' elt (fun o' r => o' = o ∧ r = .d (g d)) o ((((ρ.set j none).set i none).set i (some (.d a))).set j (some (.d b)))) ∧ Q o (.d (.lst (ds.map g)))) own ρ)
    (nd : X.N.Nodup) (hg1 : ∀ s H0 C cl fp, PG (bx X scope s H0 C cl fp) (.Name x p1) (gName i) := by intro _ _ _ _ _; exact pg_name (by assumption) rfl (Or.inl rfl)) (hg2 : ∀ s H0 C cl fp, PG (bx X scope s H0 C cl fp) (.Name y p2) (gName j) := by intro _ _ _ _ _; exact pg_name (by assumption) rfl (Or.inl rfl)) :
    Lc X F elt (.Tuple [.Name x p1, .Name y p2] k0 p3) iter [] scope Q own ρ :=
  Lc.it [(x, i), (y, j)] (TgP.two i j hc hg1 hg2) ok (h.mono fun o ds S ⟨z, f, q⟩ => ⟨z, fun j acc => acc = (ds.take j).map g, rfl, fun j d acc hd ha => by
    obtain ⟨a, b, rfl, f⟩ := f d (List.mem_of_getElem? hd)
    exact ⟨[a, b], ⟨rfl, rfl⟩, fun s H0 C cl fp F' le => (f s H0 C cl fp F' le).mono fun o' r ⟨e1, e2⟩ => ⟨e1, g (.tup [a, b]), e2, by show acc ++ [_] = (ds.take (j + 1)).map g; rw [ha, take_snoc hd]; simp⟩⟩, fun acc ha => by rw [ha, List.take_length]; exact q⟩)
/-- [e for x in ..], with an invariant -/
theorem Lc.it1 {x : Str} {tp : Pos} (i : Nat) (ok : BlkOk X.N X.env.scope scope [(x, i)])
    (h : It1 X F (.Name x tp) iter (fun o ds _ => ds.length ≤ 100000 ∧ ∃ G : Nat → List D → Prop, G 0 [] ∧ (∀ j d acc, ds[j]? = some d → G j acc → ∀ s H0 C cl fp (F' : Fm), Fle X.K F F' → E (bx X scope s H0 C cl fp) F' elt (fun o' r => o' = o ∧ ∃ d', r = .d d' ∧ G (j + 1) (acc ++ [d'])) o ((ρ.set i none).set i (some (.d d)))) ∧ ∀ acc, G ds.length acc → Q o (.d (.lst acc))) own ρ)
    (nd : X.N.Nodup) (hg : ∀ s H0 C cl fp, PG (bx X scope s H0 C cl fp) (.Name x tp) (gName i) := by intro _ _ _ _ _; exact pg_name (by assumption) rfl (Or.inl rfl)) : Lc X F elt (.Name x tp) iter [] scope Q own ρ :=
  Lc.it [(x, i)] (TgP.name i hg) ok (h.mono fun o ds S ⟨z, G, g0, f, q⟩ => ⟨z, G, g0, fun j d acc hd ha => ⟨[d], rfl, f j d acc hd ha⟩, q⟩)
theorem Lc.it1T {x : Str} {tp : Pos} (i : Nat) (ok : BlkOk X.N X.env.scope scope [(x, i)])
    (h : It1 X F (.Name x tp) iter (fun o ds _ => ds.length ≤ 100000 ∧ ∃ G : Nat → List D → Prop, G 0 [] ∧ (∀ j d acc, ds[j]? = some d → G j acc → ∀ s H0 C cl fp (F' : Fm), Fle X.K F F' → T (bx X scope s H0 C cl fp) F' t (fun o' b => o' = o ∧ if b = true then ∀ s H0 C cl fp (F' : Fm), Fle X.K F F' → E (bx X scope s H0 C cl fp) F' elt (fun o' r => o' = o ∧ ∃ d', r = .d d' ∧ G (j + 1) (acc ++ [d'])) o ((ρ.set i none).set i (some (.d d))) else G (j + 1) acc) o ((ρ.set i none).set i (some (.d d)))) ∧ ∀ acc, G ds.length acc → Q o (.d (.lst acc))) own ρ)
    (nd : X.N.Nodup) (hg : ∀ s H0 C cl fp, PG (bx X scope s H0 C cl fp) (.Name x tp) (gName i) := by intro _ _ _ _ _; exact pg_name (by assumption) rfl (Or.inl rfl)) : Lc X F elt (.Name x tp) iter [t] scope Q own ρ :=
  Lc.itT [(x, i)] (TgP.name i hg) ok (h.mono fun o ds S ⟨z, G, g0, f, q⟩ => ⟨z, G, g0, fun j d acc hd ha => ⟨[d], rfl, f j d acc hd ha⟩, q⟩)
end
end DL

/-! Fw31: the start of a law with one table of code objects -/
namespace DL
open PySem PySem.Spec PyProof.Rows L2
theorem seq_msk {K : PySem.W.Frag} {H : Hp} {a T : Addr} {xs : List V} (eT : H T = some (.tbl #[])) (h : SqL K H a xs) : SqL K (msk [T] H) a xs := by
  rcases h with (h | ⟨o, h⟩) | h
  · have ne : a ∉ [T] := fun z => by rw [List.mem_singleton.mp z, eT] at h; cases h
    exact .inl (.inl (by rw [msk_out ne]; exact h))
  · have ne : a ∉ [T] := fun z => by rw [List.mem_singleton.mp z, eT] at h; cases h
    exact .inl (.inr ⟨o, by rw [msk_out ne]; exact h⟩)
  · exact .inr h
theorem spT_start {K : PySem.W.Frag} {H : Hp} {a T : Addr} {q : Str} {ns : List Int} {pre : List (Addr × List D) → List D → Prop} (eT : H T = some (.tbl #[])) (hS : SqL K H a (ns.map V.int)) (hp : pre [] [.rol (ns.map D.int)]) :
    spT K T q pre (fun _ r => r = .bl true) [.ref a] H (fun v _ => v = .bl true) fun _ _ _ => False := by
  refine ⟨[T], [], [.rol (ns.map D.int)], List.mem_singleton.mpr rfl, fun b hb => ?_, ⟨#[], eT, ?_, fun pos cv h => ?_⟩, fun x hx => absurd hx (by simp), Reps.cons (by simp only [Rep]; exact ⟨a, _, rfl, seq_msk eT hS, Reps.ofInts⟩) Reps.nil, hp, fun H' d v _ _ rd pd => ?_⟩
  · rw [List.mem_singleton.mp hb, eT]
    exact ⟨_, rfl, fun _ z => by cases z⟩
  · exact True.intro
  · simp [codeAmong] at h
  · subst pd
    simpa only [Rep] using rd
end DL

/-! Hd1: the head by facts that are Bools over the written part -/
namespace HB
open PySem PySem.W PyProof.Rows
def obs1 (bs : List (List (Frag → Bool))) (fn : List (List He5.DefA)) (K : Frag) : He.AlD :=
  ((bs.all fun l => l.all fun b => b K) && (fn.all fun l => l.all fun d => d.ok K), fn.flatMap fun l => l.map fun d => He5.fnA K (d.at_ K))
def val1 (fn : List (List He5.DefA)) : He.AlD := (true, fn.flatMap fun l => l.map He5.DefA.val)
def Says (bs : List (List (Frag → Bool))) (fn : List (List He5.DefA)) (K : Frag) : Prop := obs1 bs fn K = val1 fn
def obsG (n : Nat) (bs : List (List (Frag → Bool))) (fn : List (List He5.DefA)) (g : Addr → Option Obj) : He.AlD := obs1 bs fn (He.frG g (He5.asA g n))
def hook (n : Nat) (bs : List (List (Frag → Bool))) (fn : List (List He5.DefA)) : Hook where
  α := He.AlD
  obs s := obsG n bs fn s.heap.get?
  val _ := val1 fn
  says _ h := ∃ K : Frag, K.In h ∧ Says bs fn K
  of _ _ e := ⟨_, He.frG_in, e⟩
  keeps _ _ _ x k := ⟨x.choose, Frag.In.keeps x.choose_spec.1 k, x.choose_spec.2⟩
theorem obsG_eq {n : Nat} {bs : List (List (Frag → Bool))} {fn : List (List He5.DefA)} {g : Addr → Option Obj} {s : Shared} (h : ∀ a, g a = s.heap.get? a) : obsG n bs fn g = (hook n bs fn).obs s := by
  rw [show g = s.heap.get? from funext h]; rfl
/-- .. the addresses told -/
def obsL (as : List Addr) (bs : List (List (Frag → Bool))) (fn : List (List He5.DefA)) (g : Addr → Option Obj) : He.AlD := obs1 bs fn (He.frG g as)
def hookL (as : List Addr) (bs : List (List (Frag → Bool))) (fn : List (List He5.DefA)) : Hook where
  α := He.AlD
  obs s := obsL as bs fn s.heap.get?
  val _ := val1 fn
  says _ h := ∃ K : Frag, K.In h ∧ Says bs fn K
  of _ _ e := ⟨_, He.frG_in, e⟩
  keeps _ _ _ x k := ⟨x.choose, Frag.In.keeps x.choose_spec.1 k, x.choose_spec.2⟩
theorem obsL_eq {as : List Addr} {bs : List (List (Frag → Bool))} {fn : List (List He5.DefA)} {g : Addr → Option Obj} {s : Shared} (h : ∀ a, g a = s.heap.get? a) : obsL as bs fn g = (hookL as bs fn).obs s := by
  rw [show g = s.heap.get? from funext h]; rfl
section
variable {bs : List (List (Frag → Bool))} {fn : List (List He5.DefA)} {K : Frag}
theorem Says.bools (c : Says bs fn K) : (bs.all fun l => l.all fun b => b K) = true ∧ (fn.all fun l => l.all fun d => d.ok K) = true := by
  have z : ((bs.all fun l => l.all fun b => b K) && (fn.all fun l => l.all fun d => d.ok K)) = true := congrArg Prod.fst (show obs1 bs fn K = val1 fn from c)
  exact Bool.and_eq_true_iff.mp z
theorem Says.at (c : Says bs fn K) (i j : Nat) {l : List (Frag → Bool)} {b : Frag → Bool} (hl : bs[i]? = some l) (hb : l[j]? = some b) : b K = true :=
  List.all_eq_true.mp (List.all_eq_true.mp c.bools.1 l (List.mem_of_getElem? hl)) b (List.mem_of_getElem? hb)
theorem flat_at {α β : Type} {f g : α → β} : ∀ {ls : List (List α)}, (ls.flatMap fun l => l.map f) = (ls.flatMap fun l => l.map g) → ∀ l ∈ ls, ∀ a ∈ l, f a = g a
  | [], _, l, hl, _, _ => by cases hl
  | m :: ls, h, l, hl, a, ha => by
    simp only [List.flatMap_cons] at h
    obtain ⟨h1, h2⟩ := List.append_inj h (by simp)
    rcases List.mem_cons.mp hl with rfl | hl
    · exact List.map_inj_left.mp h1 a ha
    · exact flat_at h2 l hl a ha
theorem Says.fun_ (c : Says bs fn K) (i j : Nat) {l : List He5.DefA} {d : He5.DefA} (hl : fn[i]? = some l) (hd : l[j]? = some d) : ∃ fd, L2.FunD K d.name d.qual d.params d.body d.scope (d.dvs K) (d.kws K) (d.at_ K) fd := by
  have ml := List.mem_of_getElem? hl
  have md := List.mem_of_getElem? hd
  refine He5.DefA.funD ?_ (List.all_eq_true.mp (List.all_eq_true.mp c.bools.2 l ml) d md)
  have e : (fn.flatMap fun l => l.map fun d => He5.fnA K (d.at_ K)) = fn.flatMap fun l => l.map He5.DefA.val := congrArg Prod.snd (show obs1 bs fn K = val1 fn from c)
  exact flat_at e l ml d md
theorem Says.dec (c : Says bs fn K) (i j : Nat) {l : List (Frag → Bool)} {p : Frag → Prop} {inst : ∀ K, Decidable (p K)} (hl : bs[i]? = some l) (hb : l[j]? = some fun K => @decide (p K) (inst K)) : p K := of_decide_eq_true (c.at i j hl hb)
end
/-- a class, a method's def, a classmethod's def, by names -/
abbrev gA (x : String) (K : Frag) : Addr := He.ga K (Str.ofString x)
abbrev fA (x : String) (K : Frag) : Addr := He.ga K (Str.ofString x)
abbrev mA (x m : String) (K : Frag) : Addr := He.ma K (He.ga K (Str.ofString x)) (Str.ofString m)
abbrev cA (x m : String) (K : Frag) : Addr := He5.wf K (He.ga K (Str.ofString x)) "classmethod" (Str.ofString m)
abbrev sA (x m : String) (K : Frag) : Addr := He5.wf K (He.ga K (Str.ofString x)) "staticmethod" (Str.ofString m)
end HB

/-! Hd2: the head by Bools, with tables of code objects that are empty -/
namespace HB
open PySem PySem.W PyProof.Rows
def tab0 : Obj := { cls := .none, data := .fields #[] }
def obsT (as ts : List Addr) (bs : List (List (Frag → Bool))) (fn : List (List He5.DefA)) (g : Addr → Option Obj) : He.AlD × List (Option Obj) := (obsL as bs fn g, ts.map g)
def hookT (as ts : List Addr) (bs : List (List (Frag → Bool))) (fn : List (List He5.DefA)) : Hook where
  α := He.AlD × List (Option Obj)
  obs s := obsT as ts bs fn s.heap.get?
  val _ := (val1 fn, ts.map fun _ => some tab0)
  says _ h := ∃ K : Frag, K.In h ∧ Says bs fn K ∧ ∀ T ∈ ts, h.get? T = some tab0
  of _ _ e := ⟨_, He.frG_in, congrArg Prod.fst e, List.map_inj_left.mp (congrArg Prod.snd e)⟩
  keeps _ _ _ x k := ⟨x.choose, Frag.In.keeps x.choose_spec.1 k, x.choose_spec.2.1, fun T hT => k _ _ (x.choose_spec.2.2 T hT)⟩
theorem obsT_eq {as ts : List Addr} {bs : List (List (Frag → Bool))} {fn : List (List He5.DefA)} {g : Addr → Option Obj} {s : Shared} (h : ∀ a, g a = s.heap.get? a) : obsT as ts bs fn g = (hookT as ts bs fn).obs s := by
  rw [show g = s.heap.get? from funext h]; rfl
/-- the code object of the def at f -/
def codeA (K : Frag) (f : Addr) : Addr := match K.lookup f with
  | some ⟨_, _, .func fd, _⟩ => (match fd.code with | .ref c => c | _ => 0)
  | _ => 0
def tabA (K : Frag) (c : Addr) : Addr := match K.lookup c with
  | some ⟨_, _, .fields vs, _⟩ => (match (vs[11]? : Option Value) with | some (.ref P) => P | _ => 0)
  | _ => 0
def codeB (K : Frag) (f c : Addr) : Bool := match K.lookup f with
  | some ⟨_, _, .func fd, _⟩ => (match fd.code with | .ref c' => c' == c | _ => false)
  | _ => false
theorem code_of {K : Frag} {x qual : PySem.Str} {params : Arguments} {body : List Stmt} {scope : Scope} {dvs : List L2.V} {kws : List (PySem.Str × L2.V)} {f c : Addr} {fd : FuncData} (F : L2.FunD K x qual params body scope dvs kws f fd) (h : codeB K f c = true) : fd.code = .ref c := by
  obtain ⟨oc, od, dV, kV, doc, pm, an, cdv, ct, osl, _, lk, _⟩ := F.ex
  unfold codeB at h
  rw [lk] at h
  simp only at h
  split at h
  · rename_i c' e
    rw [e, beq_iff_eq.mp h]
  · cases h
end HB

namespace Toy
open PySem PySem.Spec PyProof.Rows L2 DL
def top (i : Nat) : Stmt := PySem.Challenge.pw_heightsfitted_k26_orders_arrange.main.body.getD i (.Pass ⟨0, 0, 0, 0⟩)
/-- the built-ins that the text leaves as they are -/
structure Bl (mg : Str → Option Value) : Prop where
  abs : mg "abs" = none
  int : mg "int" = none
  len : mg "len" = none
  list : mg "list" = none
  range : mg "range" = none
  isinstance : mg "isinstance" = none
  bool : mg "bool" = none
  tuple : mg "tuple" = none
  str : mg "str" = none
  sum : mg "sum" = none
  sorted : mg "sorted" = none
theorem ints_inj {a b : List Int} (h : a.map D.int = b.map D.int) : a = b := by
  induction a generalizing b with
  | nil => cases b with
    | nil => rfl
    | cons _ _ => simp at h
  | cons x a ih => cases b with
    | nil => simp at h
    | cons y b =>
      simp only [List.map_cons, List.cons.injEq, D.int.injEq] at h
      rw [h.1, ih h.2]
theorem mon_inj {a b : List Int} (h : [D.tup (a.map D.int)] = [D.tup (b.map D.int)]) : b = a := by
  simp only [List.cons.injEq, D.tup.injEq, and_true] at h
  exact (ints_inj h).symm

theorem szle {n : Nat} (h : n ≤ 100000) : n ≤ sizeLine := Nat.le_trans h (by decide)
theorem szlt {n : Nat} (h : n < 100000) : n < sizeLine := Nat.lt_of_lt_of_le h (by decide)
theorem sz0 : 0 ≤ sizeLine := by decide
theorem sz1 : 1 ≤ sizeLine := by decide
theorem sz2 : 2 ≤ sizeLine := by decide
theorem sz3 : 3 ≤ sizeLine := by decide
theorem sz4 : 4 ≤ sizeLine := by decide
theorem sz5 : 5 ≤ sizeLine := by decide
theorem sz6 : 6 ≤ sizeLine := by decide
theorem sz7 : 7 ≤ sizeLine := by decide
theorem bt_int : bootBuiltins "int" = some (.type "int") := by decide +kernel
theorem bt_list : bootBuiltins "list" = some (.type "list") := by decide +kernel
theorem bt_bool : bootBuiltins "bool" = some (.type "bool") := by decide +kernel
theorem bt_tuple : bootBuiltins "tuple" = some (.type "tuple") := by decide +kernel
theorem bt_str : bootBuiltins "str" = some (.type "str") := by decide +kernel
theorem bt_abs : bootBuiltins "abs" = some (.builtin "abs") := by decide +kernel
theorem bt_len : bootBuiltins "len" = some (.builtin "len") := by decide +kernel
theorem bt_max : bootBuiltins "max" = some (.builtin "max") := by decide +kernel
theorem bt_min : bootBuiltins "min" = some (.builtin "min") := by decide +kernel
theorem bt_isinstance : bootBuiltins "isinstance" = some (.builtin "isinstance") := by decide +kernel
theorem bt_sum : bootBuiltins "sum" = some (.builtin "sum") := by decide +kernel
theorem bt_sorted : bootBuiltins "sorted" = some (.builtin "sorted") := by decide +kernel
theorem at0 {α : Type} {a : α} {xs : List α} : atI (a :: xs) 0 = some a := atI_nat (j := 0) rfl
theorem at1 {α : Type} {a b : α} {xs : List α} : atI (a :: b :: xs) 1 = some b := atI_nat (j := 1) rfl
theorem at2 {α : Type} {a b c : α} {xs : List α} : atI (a :: b :: c :: xs) 2 = some c := atI_nat (j := 2) rfl
theorem ifd {p A B : Prop} [Decidable p] (h1 : p → A) (h2 : ¬ p → B) : if decide p = true then A else B := by
  by_cases h : p
  · rw [decide_eq_true h]; exact iteT (h1 h)
  · rw [decide_eq_false h]; exact iteF (h2 h)
theorem ifn {p A B : Prop} [Decidable p] (h1 : ¬ p → A) (h2 : p → B) : if (!decide p) = true then A else B := by
  by_cases h : p
  · rw [decide_eq_true h]; exact iteF (h2 h)
  · rw [decide_eq_false h]; exact iteT (h1 h)
theorem ifT {p A B : Prop} [Decidable p] (h : p) (a : A) : if decide p = true then A else B := by rw [decide_eq_true h]; exact iteT a
theorem ifF {p A B : Prop} [Decidable p] (h : ¬ p) (a : B) : if decide p = true then A else B := by rw [decide_eq_false h]; exact iteF a
theorem cut1 {a : D} {xs : List D} : DL.cutD (a :: xs) (some 1) none = xs := by
  unfold DL.cutD
  have e1 : HT.sIx (a :: xs).length 0 (some 1) = 1 := by simp [HT.sIx]
  have e2 : HT.sIx (a :: xs).length (a :: xs).length none = xs.length + 1 := by simp [HT.sIx]
  rw [e1, e2]
  simp

local macro_rules | `(tactic| walk_at "o") => `(tactic| first
  | refine O2.lt ?_ | refine O2.le ?_ | refine O2.gt ?_ | refine O2.ge ?_ | refine O2.eq ?_ | refine O2.ne ?_ | refine O2.add ?_ | refine O2.sub ?_ | refine O2.cat (by walk_at "sz") ?_
  | refine O2.mulS (.inr (by decide)) ?_ | refine O2.mulS (.inl (by decide)) ?_ | refine O2.mulS (.inl ⟨by omega, by omega⟩) ?_ | refine O2.mulS (.inr ⟨by omega, by omega⟩) ?_ | refine O2.mul (by walk_at "mul") ?_ | refine O2.mod (by first | decide | omega) ?_
  | refine O2.fdiv (by first | decide | exact ⟨by omega, by omega⟩) ?_ | refine O2.fdivW (by walk_at "div") ?_ | refine O2.pow ⟨by decide, by decide, by decide⟩ ?_ | refine O2.eqB ?_ | refine O2.neB ?_ | refine O2.eqS ?_ | refine O2.neS ?_ | refine O2.catS (by walk_at "sz") ?_ | refine O2.ltL (by assumption) ?_)
local macro_rules | `(tactic| walk_at "div") => `(tactic| assumption)
local macro_rules | `(tactic| walk_at "mul") => `(tactic| assumption)
local macro_rules | `(tactic| walk_at "u") => `(tactic| refine O1.neg ?_)
local macro_rules | `(tactic| walk_at "sz") => `(tactic| first | exact szle (by simp; omega) | exact szle (by simp) | exact szle (by omega) | exact szlt (by simp; omega) | exact szlt (by simp) | exact szlt (by omega))
local macro_rules | `(tactic| walk_at "ix") => `(tactic| first
  | refine Ix.cell rfl at0 ?_ | refine Ix.cell rfl at1 ?_ | refine Ix.cell rfl at2 ?_ | refine Ix.tup at0 ?_ | refine Ix.tup at1 ?_ | refine Ix.tup at2 ?_ | refine Ix.lst at0 ?_ | refine Ix.lst at1 ?_ | refine Ix.lst at2 ?_ | refine Ix.cell rfl (by walk_at "at") ?_
  | refine Ix.lst (by walk_at "at") ?_ | refine Ix.tup (by walk_at "at") ?_ | refine Ix.str (by walk_at "sz") (by walk_at "at") ?_)
local macro_rules | `(tactic| walk_at "at") => `(tactic| assumption)
local macro_rules | `(tactic| walk_at "cl") => `(tactic| first
  | refine Cl.int ?_ | refine Cl.abs ?_ | refine Cl.lenL ?_ | refine Cl.lenT ?_ | refine Cl.lenC rfl ?_ | refine Cl.lenS (by walk_at "sz") ?_ | refine Cl.listL ?_ | refine Cl.listT ?_ | refine Cl.tupleL ?_ | refine Cl.tupleT ?_ | refine Cl.sumT rfl ?_ | refine Cl.sumL rfl ?_
  | refine Cl.lenQ (by assumption) ?_ | refine Cl.listQ (by assumption) ?_ | refine Cl.tupleQ (by assumption) ?_)
local macro_rules | `(tactic| walk_at "tr") => `(tactic| first | refine Tr.bl ?_ | refine Tr.int ?_ | refine Tr.lst ?_)
local macro_rules | `(tactic| walk_at "sl") => `(tactic| first | refine Sl.lst ?_ | refine Sl.str (by walk_at "sz") ?_ | refine Sl.tup (by assumption) ?_)
local macro_rules | `(tactic| walk_at "six") => `(tactic| refine ⟨_, _, _, _, rfl, rfl, rfl, (by first | rfl | walk_at "at"), ?_⟩)
local macro_rules | `(tactic| walk_at "app") => `(tactic| refine ⟨_, rfl, (by walk_at "sz"), ?_⟩)
local macro_rules | `(tactic| walk_at "disp") => `(tactic| first | refine ⟨[], rfl, sz0, ?_⟩ | refine ⟨[_], rfl, sz1, ?_⟩ | refine ⟨[_, _], rfl, sz2, ?_⟩ | refine ⟨[_, _, _], rfl, sz3, ?_⟩ | refine ⟨[_, _, _, _, _, _, _], rfl, sz7, ?_⟩)
local macro_rules | `(tactic| walk_at "dispC") => `(tactic| first | refine ⟨sz0, ?_⟩ | refine ⟨sz1, ?_⟩ | refine ⟨sz2, ?_⟩ | refine ⟨sz3, ?_⟩)
local macro_rules | `(tactic| walk_at "n") => `(tactic| try dsimp only [List.set_cons_zero, List.set_cons_succ, List.set])

/-- a monomial, by its exponents -/
abbrev mon (es : List Int) : D := .tup (es.map D.int)
abbrev ilst (es : List Int) : D := .lst (es.map D.int)
def stdK (es : List Int) : List Int := es.sum :: es.map fun e => -e
def ixI (es : List Int) (i : Int) : Int := es.getD i.toNat 0
def kDeg : Str := "degree"
def kVar : Str := "variables"
def ordK (k : Str) (rk es : List Int) : List Int := if k = kDeg then es.sum :: rk.map (fun i => -(ixI es i)) else rk.map (ixI es)
theorem ixI_at {es : List Int} {i : Int} (h0 : 0 ≤ i) (h : i < es.length) : atI (es.map D.int) i = some (.int (ixI es i)) := by
  have e : (i.toNat : Int) = i := Int.toNat_of_nonneg h0
  have hl : i.toNat < es.length := by omega
  rw [← e]
  refine atI_nat (j := i.toNat) ?_
  rw [List.getElem?_map, List.getElem?_eq_getElem hl]
  unfold ixI
  rw [List.getD_eq_getElem?_getD, List.getElem?_eq_getElem (by rw [e]; exact hl)]
  simp [e]
section
variable {P : Program} {w : World} {K : PySem.W.Frag} {mg : Str → Option Value} {base : Heap} {CO : Addr} {f : Addr} {fd : FuncData}
/-- the class Order -/
structure OrT (K : PySem.W.Frag) (mg : Str → Option Value) (CO : Addr) : Prop where
  mgO : mg "Order" = some (.ref CO)
  cls : Cls K CO
  nk : NoAttr K CO "kind"
  nr : NoAttr K CO "ranking"
  nd : NoAttr K CO "dimension"
  isc : IsC K CO
  kOO : PySem.W.kitOne K (.ref CO) (.ref CO) = some true
  sf : PySem.W.selfFirst K CO = true
abbrev sDim : Stmt := top 8
theorem scDim : FnScope ["dimension"] ["dimension"] (defScope sDim) := ⟨rfl, rfl, rfl, by decide +kernel, rfl, by decide +kernel, by decide +kernel⟩
theorem ok_dim (F : Df K mg "check_dimension" sDim ["dimension"] f fd) : FnOk P w K mg base CX0 1 f fd ["dimension"] (spF K (fun ds => ∃ n : Int, ds = [.int n] ∧ 1 ≤ n ∧ n ≤ 3) fun _ r => r = .non) := by
  refine ok_F F.fn scDim (fun ds ⟨_, e, _⟩ => by rw [e]; rfl) fun cdv Ar outer sh Hp0 xE Fr ds hr hm ⟨n, e, h1, h2⟩ => ?_
  have nd := scDim.nd
  subst e
  show W _ _ _ _ _ [some (.d (.int n))]
  refine W.cons ?_
  refine W1.iff ?_
  refine T.not ?_
  refine T.chain ?_
  refine E.int ?_
  refine E.var 0 rfl ?_
  walk_at "o"
  refine ⟨_, rfl, ?_⟩
  refine ifT h1 ?_
  refine E.int ?_
  walk_at "o"
  refine ⟨_, rfl, ?_⟩
  rw [decide_eq_true h2]
  exact iteF (W.nil (W.nil rfl))
abbrev sLen : Stmt := top 9
theorem scLen : FnScope ["entries", "dimension"] ["entries", "dimension"] (defScope sLen) := ⟨rfl, rfl, rfl, by decide +kernel, rfl, by decide +kernel, by decide +kernel⟩
theorem ok_len (F : Df K mg "check_length" sLen ["entries", "dimension"] f fd) (B : Bl mg) : FnOk P w K mg base CX0 1 f fd ["entries", "dimension"] (spF K (fun ds => ∃ es : List Int, ds = [mon es, .int es.length]) fun _ r => r = .non) := by
  refine ok_F F.fn scLen (fun ds ⟨_, e⟩ => by rw [e]; rfl) fun cdv Ar outer sh Hp0 xE Fr ds hr hm ⟨es, e⟩ => ?_
  have nd := scLen.nd
  subst e
  show W _ _ _ _ _ [some (.d (mon es)), some (.d (.int es.length))]
  refine W.cons ?_
  refine W1.iff ?_
  refine T.cmp ?_
  refine E.callB B.len bt_len ?_
  refine A.cons ?_
  refine E.var 0 rfl ?_
  refine A.nil ?_
  walk_at "cl"
  refine E.var 1 rfl ?_
  walk_at "o"
  refine ⟨_, rfl, ?_⟩
  refine ifn (fun h => absurd (by simp) h) (fun _ => W.nil (W.nil rfl))
/-- the error of another length -/
structure WdT (K : PySem.W.Frag) (mg : Str → Option Value) (Z : Addr) : Prop where
  mgZ : mg "WrongDimension" = some (.ref Z)
  kZ : PySem.W.keepIn K (.ref Z) = true
  ex : PySem.W.excIn K Z [.type "ValueError", .type "Exception", .type "BaseException", .type "object"] "ValueError.__new__" = true
  r1 : PySem.W.subIn K (.ref Z) (.type "BaseException") = some true
  r2 : PySem.W.typeIn K (.ref Z) = some (.type "type")
theorem ok_lenX {Z : Addr} (F : Df K mg "check_length" sLen ["entries", "dimension"] f fd) (B : Bl mg) (tW : WdT K mg Z) : FnOk P w K mg base (L2.CX P w) 1 f fd ["entries", "dimension"] (spX K (fun ds => ∃ (es : List Int) (n : Int), ds = [mon es, .int n])
    (fun ds r => r = .non ∧ ∃ (es : List Int) (n : Int), ds = [mon es, .int n] ∧ (es.length : Int) = n) (fun ds c => c = .ref Z ∧ ∃ (es : List Int) (n : Int), ds = [mon es, .int n] ∧ (es.length : Int) ≠ n)) := by
  refine ok_X F.fn scLen (fun ds ⟨_, _, e⟩ => by rw [e]; rfl) fun cdv Ar outer sh Hp0 xE Fr ds hr hm ⟨es, n, e⟩ tk => ?_
  have nd := scLen.nd
  subst e
  show W _ _ _ _ _ [some (.d (mon es)), some (.d (.int n))]
  refine W.cons ?_
  refine W1.iff ?_
  refine T.cmp ?_
  refine E.callB B.len bt_len ?_
  refine A.cons ?_
  refine E.var 0 rfl ?_
  refine A.nil ?_
  walk_at "cl"
  refine E.var 1 rfl ?_
  walk_at "o"
  refine ⟨_, rfl, ?_⟩
  refine ifn (fun h => ?_) (fun h => W.nil (W.nil ⟨rfl, es, n, rfl, by simpa using h⟩))
  exact W.cons (W1.raise rfl tk PySem.F.excBase_ValueError tW.ex tW.mgZ tW.kZ (raises_own tW.r1 tW.r2) ⟨rfl, es, n, rfl, by simpa using h⟩)
abbrev sStd : Stmt := top 10
theorem scStd : FnScope ["exponents", "exponent"] ["exponents"] (defScope sStd) := ⟨rfl, rfl, rfl, by decide +kernel, rfl, by decide +kernel, by decide +kernel⟩
theorem ok_std (F : Df K mg "standard_key" sStd ["exponents"] f fd) (B : Bl mg) : FnOk P w K mg base CX0 1 f fd ["exponents"] (spF K (fun ds => ∃ es : List Int, ds = [mon es] ∧ es.length ≤ 3) fun ds r => ∃ es : List Int, ds = [mon es] ∧ r = ilst (stdK es)) := by
  refine ok_F F.fn scStd (fun ds ⟨_, e, _⟩ => by rw [e]; rfl) fun cdv Ar outer sh Hp0 xE Fr ds hr hm ⟨es, e, hz⟩ => ?_
  have nd := scStd.nd
  subst e
  show W _ _ _ _ _ [some (.d (mon es)), none]
  refine W.cons ?_
  refine W1.ret ?_
  refine E.bin ?_
  refine E.lst ?_
  refine A.cons ?_
  refine E.callB B.sum bt_sum ?_
  refine A.cons ?_
  refine E.var 0 rfl ?_
  refine A.nil ?_
  walk_at "cl"
  refine A.nil ?_
  walk_at "disp"
  refine E.lcM (ds := es.map D.int) 1 (fun d => match d with | .int i => .int (-i) | _ => .non) (.inr (.inl rfl)) rfl nd (blkOk_by (by kernel_rfl)) ?_
  skip -- [-exponent for exponent in exponents] i
  refine E.var 0 rfl ?_
  refine ⟨rfl, by simp; omega, fun d hd s H0 C cl fp F' le => ?_, ?_⟩
  · obtain ⟨i, _, rfl⟩ := List.mem_map.mp hd
    show E _ _ _ _ _ [some (.d (mon es)), some (.d (.int i))]
    skip -- [-exponent for exponent in exponents] e
    refine E.un ?_
    refine E.var 1 rfl ?_
    walk_at "u"
    exact ⟨rfl, rfl⟩
  walk_at "o"
  exact ⟨_, rfl, es, rfl, by simp [stdK, ilst, Function.comp_def]⟩
abbrev KLen (P : Program) (w : World) (K : PySem.W.Frag) (mg : Str → Option Value) (base : Heap) : Prop := DOk P w K mg base CX0 "check_length" 1 (spF K (fun ds => ∃ es : List Int, ds = [mon es, .int es.length]) fun _ r => r = .non)
abbrev KDim (P : Program) (w : World) (K : PySem.W.Frag) (mg : Str → Option Value) (base : Heap) : Prop := DOk P w K mg base CX0 "check_dimension" 1 (spF K (fun ds => ∃ n : Int, ds = [.int n] ∧ 1 ≤ n ∧ n ≤ 3) fun _ r => r = .non)
abbrev KStd (P : Program) (w : World) (K : PySem.W.Frag) (mg : Str → Option Value) (base : Heap) : Prop := DOk P w K mg base CX0 "standard_key" 1 (spF K (fun ds => ∃ es : List Int, ds = [mon es] ∧ es.length ≤ 3) fun ds r => ∃ es : List Int, ds = [mon es] ∧ r = ilst (stdK es))
abbrev sBef : Stmt := top 11
theorem scBef : FnScope ["first", "second"] ["first", "second"] (defScope sBef) := ⟨rfl, rfl, rfl, by decide +kernel, rfl, by decide +kernel, by decide +kernel⟩
theorem ok_bef (F : Df K mg "comes_before" sBef ["first", "second"] f fd) (B : Bl mg) (GLen : KLen P w K mg base) (GDim : KDim P w K mg base) (GStd : KStd P w K mg base) : FnOk P w K mg base CX0 2 f fd ["first", "second"]
    (spF K (fun ds => ∃ a b : List Int, ds = [mon a, mon b] ∧ 1 ≤ a.length ∧ a.length ≤ 3 ∧ b.length = a.length) fun ds r => ∃ a b : List Int, ds = [mon a, mon b] ∧ r = .bl (decide (stdK a < stdK b))) := by
  refine ok_F F.fn scBef (fun ds ⟨_, _, e, _⟩ => by rw [e]; rfl) fun cdv Ar outer sh Hp0 xE Fr ds hr hm ⟨a, b, e, h1, h2, h3⟩ => ?_
  have nd := scBef.nd
  have hu := hr.units
  subst e
  show W _ _ _ _ _ [some (.d (mon a)), some (.d (mon b))]
  refine W.cons ?_
  refine W1.expr ?_
  refine E.dcall GDim (hr.mono (by decide)) ?_
  refine A.cons ?_
  refine E.callB B.len bt_len ?_
  refine A.cons ?_
  refine E.var 0 rfl ?_
  refine A.nil ?_
  walk_at "cl"
  refine A.nil ?_
  refine ⟨[_], rfl, ⟨_, rfl, by simp; omega, by simp; omega⟩, ?_⟩
  rintro _ rfl
  refine W.cons ?_
  refine W1.expr ?_
  refine E.dcall GLen (hr.mono (by decide)) ?_
  refine A.cons ?_
  refine E.var 1 rfl ?_
  refine A.cons ?_
  refine E.callB B.len bt_len ?_
  refine A.cons ?_
  refine E.var 0 rfl ?_
  refine A.nil ?_
  walk_at "cl"
  refine A.nil ?_
  refine ⟨[_, _], rfl, ⟨b, by simp [h3]⟩, ?_⟩
  rintro _ rfl
  refine W.cons ?_
  refine W1.ret ?_
  refine E.cmp ?_
  refine E.dcall GStd (hr.mono (by decide)) ?_
  refine A.cons ?_
  refine E.var 0 rfl ?_
  refine A.nil ?_
  refine ⟨[_], rfl, ⟨_, rfl, h2⟩, ?_⟩
  rintro _ ⟨_, e, rfl⟩
  obtain rfl := mon_inj e
  refine E.dcall GStd (hr.mono (by decide)) ?_
  refine A.cons ?_
  refine E.var 1 rfl ?_
  refine A.nil ?_
  refine ⟨[_], rfl, ⟨_, rfl, by omega⟩, ?_⟩
  rintro _ ⟨_, e, rfl⟩
  obtain rfl := mon_inj e
  skip
  exact O2.ltL hu ⟨_, rfl, _, _, rfl, rfl⟩
def preKey : List D → Prop := fun ds => ∃ (k : Str) (rk es : List Int), ds = [.str k, .tup (rk.map D.int), mon es] ∧ rk.length ≤ 3 ∧ ∀ i ∈ rk, 0 ≤ i ∧ i < es.length
def postKey : List D → D → Prop := fun ds r => ∃ (k : Str) (rk es : List Int), ds = [.str k, .tup (rk.map D.int), mon es] ∧ r = ilst (ordK k rk es)
abbrev sKey : Stmt := top 14
theorem scKey : FnScope ["kind", "ranking", "exponents", "index"] ["kind", "ranking", "exponents"] (defScope sKey) := ⟨rfl, rfl, rfl, by decide +kernel, rfl, by decide +kernel, by decide +kernel⟩
theorem ok_key (F : Df K mg "order_key" sKey ["kind", "ranking", "exponents"] f fd) (B : Bl mg) : FnOk P w K mg base CX0 1 f fd ["kind", "ranking", "exponents"] (spF K preKey postKey) := by
  refine ok_F F.fn scKey (fun ds ⟨_, _, _, e, _⟩ => by rw [e]; rfl) fun cdv Ar outer sh Hp0 xE Fr ds hr hm ⟨k, rk, es, e, hz, hi⟩ => ?_
  have nd := scKey.nd
  subst e
  show W _ _ _ _ _ [some (.d (.str k)), some (.d (.tup (rk.map D.int))), some (.d (mon es)), none]
  refine W.cons ?_
  refine W1.iff ?_
  refine T.cmp ?_
  refine E.var 0 rfl ?_
  refine E.str ?_
  walk_at "o"
  refine ⟨_, rfl, ?_⟩
  refine ifd (fun h => ?_) (fun h => W.nil ?_)
  · skip
    refine W.cons ?_
    refine W1.ret ?_
    refine E.bin ?_
    refine E.lst ?_
    refine A.cons ?_
    refine E.callB B.sum bt_sum ?_
    refine A.cons ?_
    refine E.var 2 rfl ?_
    refine A.nil ?_
    walk_at "cl"
    refine A.nil ?_
    walk_at "disp"
    refine E.lcM (ds := rk.map D.int) 3 (fun d => match d with | .int i => .int (-(ixI es i)) | _ => .non) (.inr (.inl rfl)) rfl nd (blkOk_by (by kernel_rfl)) ?_
    skip -- [-exponents[index] for index in ranking] i
    refine E.var 1 rfl ?_
    refine ⟨rfl, by simp; omega, fun d hd s H0 C cl fp F' le => ?_, ?_⟩
    · obtain ⟨i, hm, rfl⟩ := List.mem_map.mp hd
      have hat := ixI_at (hi i hm).1 (hi i hm).2
      show E _ _ _ _ _ [some (.d (.str k)), some (.d (.tup (rk.map D.int))), some (.d (mon es)), some (.d (.int i))]
      skip -- [-exponents[index] for index in ranking] e
      refine E.un ?_
      refine E.ix ?_
      refine E.var 2 rfl ?_
      refine E.var 3 rfl ?_
      walk_at "ix"
      walk_at "u"
      exact ⟨rfl, rfl⟩
    walk_at "o"
    refine ⟨_, rfl, k, rk, es, rfl, ?_⟩
    have h : k = kDeg := h
    simp [ordK, ilst, Function.comp_def, h]
  · skip
    refine W.cons ?_
    refine W1.ret ?_
    refine E.lcM (ds := rk.map D.int) 3 (fun d => match d with | .int i => .int (ixI es i) | _ => .non) (.inr (.inl rfl)) rfl nd (blkOk_by (by kernel_rfl)) ?_
    skip -- [exponents[index] for index in ranking] i
    refine E.var 1 rfl ?_
    refine ⟨rfl, by simp; omega, fun d hd s H0 C cl fp F' le => ?_, ?_⟩
    · obtain ⟨i, hm, rfl⟩ := List.mem_map.mp hd
      have hat := ixI_at (hi i hm).1 (hi i hm).2
      show E _ _ _ _ _ [some (.d (.str k)), some (.d (.tup (rk.map D.int))), some (.d (mon es)), some (.d (.int i))]
      skip -- [exponents[index] for index in ranking] e
      refine E.ix ?_
      refine E.var 2 rfl ?_
      refine E.var 3 rfl ?_
      walk_at "ix"
      exact ⟨rfl, rfl⟩
    refine ⟨_, rfl, k, rk, es, rfl, ?_⟩
    have h : ¬ k = kDeg := h
    simp [ordK, ilst, Function.comp_def, h]
end

/-- an Order -/
abbrev orD (CO : Addr) (k : Str) (rk : List Int) : D := .ins CO ["kind", "ranking", "dimension"] [.str k, .tup (rk.map D.int), .int rk.length]
abbrev onames : List Str := ["kind", "ranking", "dimension"]
def rgI (n : Nat) : List Int := (List.range n).map fun (j : Nat) => (j : Int)
def RkOk (rk : List Int) : Prop := 1 ≤ rk.length ∧ rk.length ≤ 3 ∧ rk.Perm (rgI rk.length)
def KdOk (k : Str) : Prop := k = kDeg ∨ k = kVar
theorem rgI_mem {n : Nat} {i : Int} (h : i ∈ rgI n) : 0 ≤ i ∧ i < n := by
  obtain ⟨j, h1, rfl⟩ := List.mem_map.mp h
  have := List.mem_range.mp h1
  omega
theorem RkOk.ix {rk es : List Int} (h : RkOk rk) (hl : es.length = rk.length) : ∀ i ∈ rk, 0 ≤ i ∧ i < es.length := fun i hi => by
  have := rgI_mem (h.2.2.mem_iff.mp hi)
  omega
theorem rgI_sorted (n : Nat) : (rgI n).Pairwise (· ≤ ·) := by
  unfold rgI
  rw [List.pairwise_map]
  exact (List.pairwise_lt_range (n := n)).imp fun h => by omega
theorem rgI_map (n : Nat) : ((List.range n).map fun (j : Nat) => D.int j) = (rgI n).map D.int := by simp [rgI, Function.comp_def]
theorem sorted_perm {rk ns : List Int} (h1 : ns.Perm rk) (h2 : ns.Pairwise (· ≤ ·)) : ns = rgI rk.length ↔ rk.Perm (rgI rk.length) := by
  constructor
  · intro e; rw [← e]; exact h1.symm
  · intro p
    exact List.Perm.eq_of_pairwise (fun a b _ _ x y => Int.le_antisymm x y) h2 (rgI_sorted _) (h1.trans p)
section
variable {P : Program} {w : World} {K : PySem.W.Frag} {mg : Str → Option Value} {base : Heap} {CO : Addr} {f : Addr} {fd : FuncData}
def preO (k : Str) (rk : List Int) : List (Addr × List D) → List D → Prop := fun bs ds => ∃ r, ds = [.str k, r] ∧ IsArg bs r (rk.map D.int)
def postO (k : Str) (rk : List Int) : List D → List D → Prop := fun _ fs => fs = [.str k, .tup (rk.map D.int), .int rk.length]
abbrev sOInit : Stmt := inClass (top 15) 0
theorem scOInit : FnScope ["self", "kind", "ranking"] ["self", "kind", "ranking"] (defScope sOInit) := ⟨rfl, rfl, rfl, by decide +kernel, rfl, by decide +kernel, by decide +kernel⟩
theorem ok_oinit {k : Str} {rk : List Int} (hk : KdOk k) (hrk : RkOk rk) (F : Fun K "__init__" "Order.__init__" sOInit f fd) (B : Bl mg) (tO : OrT K mg CO) : FnOk P w K mg base CX0 1 f fd ["self", "kind", "ranking"] (spQI K CO onames (preO k rk) (postO k rk)) := by
  refine ok_QI F scOInit (fun bs ds ⟨_, e, _⟩ => by rw [e]; rfl) fun cdv Ar outer sh Hp0 xE Fr bs ds hr hbs ⟨r, e, ha⟩ => ?_
  have nd := scOInit.nd
  have hu := hr.units
  have q : IsSeq K Fr (.d r) (rk.map D.int) := ha.seq hbs
  subst e
  show W _ _ _ _ _ [some (.c 0), some (.d (.str k)), some (.d r)]
  have hn := List.length_map (as := rk) D.int
  obtain ⟨g1, g2, g3⟩ := hrk
  refine W.cut (fun o r' => o = [.ins CO [] []] ∧ r' = [some (.c 0), some (.d (.str k)), some (.d r)]) ?_ ?_
  · skip
    refine W1.iff ?_
    refine Tw.t ?_
    refine Tw.and ?_
    refine T.cmp ?_
    refine E.var 1 rfl ?_
    refine E.str ?_
    walk_at "o"
    refine ⟨_, rfl, ?_⟩
    refine ifn (fun h1 => ?_) (fun h1 => W.nil ⟨rfl, rfl⟩)
    refine Tw.and1 ?_
    refine T.cmp ?_
    refine E.var 1 rfl ?_
    refine E.str ?_
    walk_at "o"
    refine ⟨_, rfl, ?_⟩
    exact ifn (fun h2 => absurd hk (fun z => z.elim (fun z => h1 z) fun z => h2 z)) (fun h2 => W.nil ⟨rfl, rfl⟩)
  rintro o ρ ⟨rfl, rfl⟩
  refine W.cut (fun o r' => o = [.ins CO [] []] ∧ r' = [some (.c 0), some (.d (.str k)), some (.d r)]) ?_ ?_
  · skip
    refine W1.iff ?_
    refine Tw.t ?_
    refine Tw.or ?_
    refine T.not ?_
    refine T.chain ?_
    refine E.int ?_
    refine E.callB B.len bt_len ?_
    refine A.cons ?_
    refine E.var 2 rfl ?_
    refine A.nil ?_
    walk_at "cl"
    walk_at "o"
    refine ⟨_, rfl, ?_⟩
    refine ifT (by simp; omega) ?_
    refine E.int ?_
    walk_at "o"
    refine ⟨_, rfl, ?_⟩
    rw [decide_eq_true (by simp; omega)]
    refine iteF ?_
    refine Tw.or1 ?_
    refine T.cmp ?_
    refine E.callB B.sorted bt_sorted ?_
    refine A.cons ?_
    refine E.callTy B.list bt_list ?_
    refine A.cons ?_
    refine E.var 2 rfl ?_
    refine A.nil ?_
    walk_at "cl"
    refine A.nil ?_
    refine Cl.sortedI fun ns p1 p2 => ?_
    refine E.lsR B.list B.range rfl ?_
    skip -- list(range(len(ranking))) i
    refine E.callB B.len bt_len ?_
    refine A.cons ?_
    refine E.var 2 rfl ?_
    refine A.nil ?_
    walk_at "cl"
    refine ⟨_, rfl, by omega, by omega, ?_⟩
    rw [hn, show (rk.length : Int).toNat = rk.length by omega, rgI_map]
    refine O2.neIL hu ⟨_, rfl, ?_⟩
    exact ifn (fun h2 => absurd ((sorted_perm p1 p2).mpr g3) h2) (fun h2 => W.nil ⟨rfl, rfl⟩)
  rintro o ρ ⟨rfl, rfl⟩
  refine W.cons ?_
  refine W1.fldN ?_
  refine E.var 1 rfl ?_
  refine E.var 0 rfl ?_
  refine ⟨_, _, _, _, rfl, rfl, tO.cls, tO.nk, by decide, by decide, ?_⟩
  refine W.cons ?_
  refine W1.fldN ?_
  refine E.callTy B.tuple bt_tuple ?_
  refine A.cons ?_
  refine E.var 2 rfl ?_
  refine A.nil ?_
  walk_at "cl"
  refine E.var 0 rfl ?_
  refine ⟨_, _, _, _, rfl, rfl, tO.cls, tO.nr, by decide, by simp, ?_⟩
  refine W.cons ?_
  refine W1.fldN ?_
  refine E.callB B.len bt_len ?_
  refine A.cons ?_
  refine E.var 2 rfl ?_
  refine A.nil ?_
  walk_at "cl"
  refine E.var 0 rfl ?_
  refine ⟨_, _, _, _, rfl, rfl, tO.cls, tO.nd, by decide, by simp, ?_⟩
  rw [hn]
  exact W.nil ⟨[_, _, _], rfl, rfl⟩
/-- the error of a bad order -/
structure BoT (K : PySem.W.Frag) (mg : Str → Option Value) (Z : Addr) : Prop where
  mgZ : mg "BadOrder" = some (.ref Z)
  kZ : PySem.W.keepIn K (.ref Z) = true
  ex : PySem.W.excIn K Z [.type "ValueError", .type "Exception", .type "BaseException", .type "object"] "ValueError.__new__" = true
  r1 : PySem.W.subIn K (.ref Z) (.type "BaseException") = some true
  r2 : PySem.W.typeIn K (.ref Z) = some (.type "type")
/-- a list or a tuple of ints -/
def LoT (r : D) (rk : List Int) : Prop := r = ilst rk ∨ r = mon rk
theorem ok_oinitX {k : Str} {rk : List Int} {Z : Addr} (hk : ¬ (KdOk k ∧ RkOk rk)) (hz : rk.length ≤ 10) (F : Fun K "__init__" "Order.__init__" sOInit f fd) (B : Bl mg) (tO : OrT K mg CO) (tZ : BoT K mg Z) :
    FnOk P w K mg base (L2.CX P w) 1 f fd ["self", "kind", "ranking"] (spIX K CO onames (fun ds => ∃ r, ds = [.str k, r] ∧ LoT r rk) (fun _ _ => False) fun _ c => c = .ref Z) := by
  refine ok_IX (.inl F) scOInit (fun ds ⟨_, e, _⟩ => by rw [e]; rfl) fun cdv Ar outer sh Hp0 xE Fr ds hr ⟨r, e, ha⟩ tk => ?_
  have nd := scOInit.nd
  have hu := hr.units
  have q : IsSeq K Fr (.d r) (rk.map D.int) := ha.elim (fun z => .inl (by rw [z])) fun z => .inr (.inl (by rw [z]))
  subst e
  show W _ _ _ _ _ [some (.c 0), some (.d (.str k)), some (.d r)]
  have hn := List.length_map (as := rk) D.int
  refine W.cut (fun o r' => o = [.ins CO [] []] ∧ r' = [some (.c 0), some (.d (.str k)), some (.d r)] ∧ KdOk k) ?_ ?_
  · skip
    refine W1.iff ?_
    refine Tw.t ?_
    refine Tw.and ?_
    refine T.cmp ?_
    refine E.var 1 rfl ?_
    refine E.str ?_
    walk_at "o"
    refine ⟨_, rfl, ?_⟩
    refine ifn (fun h1 => ?_) (fun h1 => W.nil ⟨rfl, rfl, .inl h1⟩)
    refine Tw.and1 ?_
    refine T.cmp ?_
    refine E.var 1 rfl ?_
    refine E.str ?_
    walk_at "o"
    refine ⟨_, rfl, ?_⟩
    refine ifn (fun h2 => ?_) (fun h2 => W.nil ⟨rfl, rfl, .inr h2⟩)
    exact W.cons (W1.raise rfl tk PySem.F.excBase_ValueError tZ.ex tZ.mgZ tZ.kZ (raises_own tZ.r1 tZ.r2) rfl)
  rintro o ρ ⟨rfl, rfl, kd⟩
  have hrk : ¬ RkOk rk := fun z => hk ⟨kd, z⟩
  refine W.cons ?_
  refine W1.iff ?_
  refine Tw.t ?_
  refine Tw.or ?_
  refine T.not ?_
  refine T.chain ?_
  refine E.int ?_
  refine E.callB B.len bt_len ?_
  refine A.cons ?_
  refine E.var 2 rfl ?_
  refine A.nil ?_
  walk_at "cl"
  walk_at "o"
  refine ⟨_, rfl, ?_⟩
  refine ifd (fun g1 => ?_) (fun g1 => ?_)
  · skip
    refine E.int ?_
    walk_at "o"
    refine ⟨_, rfl, ?_⟩
    refine ifn (fun g2 => ?_) (fun g2 => ?_)
    · exact W.cons (W1.raise rfl tk PySem.F.excBase_ValueError tZ.ex tZ.mgZ tZ.kZ (raises_own tZ.r1 tZ.r2) rfl)
    · skip
      refine Tw.or1 ?_
      refine T.cmp ?_
      refine E.callB B.sorted bt_sorted ?_
      refine A.cons ?_
      refine E.callTy B.list bt_list ?_
      refine A.cons ?_
      refine E.var 2 rfl ?_
      refine A.nil ?_
      walk_at "cl"
      refine A.nil ?_
      refine Cl.sortedI fun ns p1 p2 => ?_
      refine E.lsR B.list B.range rfl ?_
      skip -- list(range(len(ranking))) i
      refine E.callB B.len bt_len ?_
      refine A.cons ?_
      refine E.var 2 rfl ?_
      refine A.nil ?_
      walk_at "cl"
      refine ⟨_, rfl, by omega, by omega, ?_⟩
      rw [hn, show (rk.length : Int).toNat = rk.length by omega, rgI_map]
      refine O2.neIL hu ⟨_, rfl, ?_⟩
      refine ifn (fun h2 => ?_) (fun h2 => absurd ⟨by omega, by omega, (sorted_perm p1 p2).mp h2⟩ hrk)
      exact W.cons (W1.raise rfl tk PySem.F.excBase_ValueError tZ.ex tZ.mgZ tZ.kZ (raises_own tZ.r1 tZ.r2) rfl)
  · refine iteT ?_
    exact W.cons (W1.raise rfl tk PySem.F.excBase_ValueError tZ.ex tZ.mgZ tZ.kZ (raises_own tZ.r1 tZ.r2) rfl)
abbrev sPre : Stmt := inClass (top 15) 1
theorem scPre : FnScope ["self", "first", "second"] ["self", "first", "second"] (defScope sPre) := ⟨rfl, rfl, rfl, by decide +kernel, rfl, by decide +kernel, by decide +kernel⟩
abbrev KLen' (P : Program) (w : World) (K : PySem.W.Frag) (mg : Str → Option Value) (base : Heap) : Prop := KLen P w K mg base
abbrev KKey (P : Program) (w : World) (K : PySem.W.Frag) (mg : Str → Option Value) (base : Heap) : Prop := DOk P w K mg base CX0 "order_key" 1 (spF K preKey postKey)
def prePre (CO : Addr) : List D → Prop := fun ds => ∃ (k : Str) (rk a b : List Int), ds = [orD CO k rk, mon a, mon b] ∧ RkOk rk ∧ a.length = rk.length ∧ b.length = rk.length
def postPre (CO : Addr) : List D → D → Prop := fun ds r => ∃ (k : Str) (rk a b : List Int), ds = [orD CO k rk, mon a, mon b] ∧ r = .bl (decide (ordK k rk a < ordK k rk b))
theorem key_inj {k k' : Str} {rk rk' es es' : List Int} (h : [D.str k, .tup (rk.map D.int), mon es] = [.str k', .tup (rk'.map D.int), mon es']) : k' = k ∧ rk' = rk ∧ es' = es := by
  simp only [List.cons.injEq, D.str.injEq, D.tup.injEq, and_true] at h
  exact ⟨h.1.symm, (ints_inj h.2.1).symm, (ints_inj h.2.2).symm⟩
theorem ok_pre (F : Dm K CO "precedes" "Order.precedes" sPre ["self", "first", "second"] f fd) (tO : OrT K mg CO) (GLen : KLen P w K mg base) (GKey : KKey P w K mg base) : FnOk P w K mg base CX0 2 f fd ["self", "first", "second"] (spF K (prePre CO) (postPre CO)) := by
  refine ok_F F.fn scPre (fun ds ⟨_, _, _, _, e, _⟩ => by rw [e]; rfl) fun cdv Ar outer sh Hp0 xE Fr ds hr hm ⟨k, rk, a, b, e, h1, h2, h3⟩ => ?_
  have nd := scPre.nd
  have hu := hr.units
  subst e
  show W _ _ _ _ _ [some (.d (orD CO k rk)), some (.d (mon a)), some (.d (mon b))]
  refine W.cons ?_
  refine W1.expr ?_
  refine E.dcall GLen (hr.mono (by decide)) ?_
  refine A.cons ?_
  refine E.var 1 rfl ?_
  refine A.cons ?_
  refine E.fld ?_
  refine E.var 0 rfl ?_
  refine ⟨_, _, _, _, rfl, tO.cls, tO.nd, rfl, ?_⟩
  refine A.nil ?_
  refine ⟨[_, _], rfl, ⟨a, by rw [h2]⟩, ?_⟩
  rintro _ rfl
  refine W.cons ?_
  refine W1.expr ?_
  refine E.dcall GLen (hr.mono (by decide)) ?_
  refine A.cons ?_
  refine E.var 2 rfl ?_
  refine A.cons ?_
  refine E.fld ?_
  refine E.var 0 rfl ?_
  refine ⟨_, _, _, _, rfl, tO.cls, tO.nd, rfl, ?_⟩
  refine A.nil ?_
  refine ⟨[_, _], rfl, ⟨b, by rw [h3]⟩, ?_⟩
  rintro _ rfl
  refine W.cons ?_
  refine W1.ret ?_
  refine E.cmp ?_
  refine E.dcall GKey (hr.mono (by decide)) ?_
  refine A.cons ?_
  refine E.fld ?_
  refine E.var 0 rfl ?_
  refine ⟨_, _, _, _, rfl, tO.cls, tO.nk, rfl, ?_⟩
  refine A.cons ?_
  refine E.fld ?_
  refine E.var 0 rfl ?_
  refine ⟨_, _, _, _, rfl, tO.cls, tO.nr, rfl, ?_⟩
  refine A.cons ?_
  refine E.var 1 rfl ?_
  refine A.nil ?_
  refine ⟨[_, _, _], rfl, ⟨k, rk, a, rfl, h1.2.1, h1.ix h2⟩, ?_⟩
  rintro _ ⟨_, _, _, e, rfl⟩
  obtain ⟨rfl, rfl, rfl⟩ := key_inj e
  refine E.dcall GKey (hr.mono (by decide)) ?_
  refine A.cons ?_
  refine E.fld ?_
  refine E.var 0 rfl ?_
  refine ⟨_, _, _, _, rfl, tO.cls, tO.nk, rfl, ?_⟩
  refine A.cons ?_
  refine E.fld ?_
  refine E.var 0 rfl ?_
  refine ⟨_, _, _, _, rfl, tO.cls, tO.nr, rfl, ?_⟩
  refine A.cons ?_
  refine E.var 2 rfl ?_
  refine A.nil ?_
  refine ⟨[_, _, _], rfl, ⟨_, _, b, rfl, h1.2.1, h1.ix h3⟩, ?_⟩
  rintro _ ⟨_, _, _, e, rfl⟩
  obtain ⟨rfl, rfl, rfl⟩ := key_inj e
  skip
  exact O2.ltL hu ⟨_, rfl, _, _, _, _, rfl, rfl⟩
end

theorem two2 {k : Bool} {A B : Prop} (h1 : k = true → A) (h2 : k = false → B) : if k = true then A else B := by
  cases k with
  | true => exact iteT (h1 rfl)
  | false => exact iteF (h2 rfl)
theorem two2n {k : Bool} {A B : Prop} (h1 : k = false → A) (h2 : k = true → B) : if (!k) = true then A else B := by
  cases k with
  | true => exact iteF (h2 rfl)
  | false => exact iteT (h1 rfl)
section
variable {P : Program} {w : World} {K : PySem.W.Frag} {mg : Str → Option Value} {base : Heap} {CO : Addr} {f : Addr} {fd : FuncData}
abbrev KLenX (P : Program) (w : World) (K : PySem.W.Frag) (mg : Str → Option Value) (base : Heap) (Z : Addr) : Prop := DOk P w K mg base (L2.CX P w) "check_length" 1 (spX K (fun ds => ∃ (es : List Int) (n : Int), ds = [mon es, .int n])
    (fun ds r => r = .non ∧ ∃ (es : List Int) (n : Int), ds = [mon es, .int n] ∧ (es.length : Int) = n) (fun ds c => c = .ref Z ∧ ∃ (es : List Int) (n : Int), ds = [mon es, .int n] ∧ (es.length : Int) ≠ n))
theorem len_inj {es es' : List Int} {n n' : Int} (h : [mon es, D.int n] = [mon es', .int n']) : es' = es ∧ n' = n := by
  simp only [List.cons.injEq, D.tup.injEq, D.int.injEq, and_true] at h
  exact ⟨(ints_inj h.1).symm, h.2.symm⟩
def preX (CO : Addr) : List D → Prop := fun ds => ∃ (k : Str) (rk a b : List Int), ds = [orD CO k rk, mon a, mon b] ∧ ¬ (a.length = rk.length ∧ b.length = rk.length)
theorem ok_preX {Z : Addr} (F : Dm K CO "precedes" "Order.precedes" sPre ["self", "first", "second"] f fd) (tO : OrT K mg CO) (GLenX : KLenX P w K mg base Z) : FnOk P w K mg base (L2.CX P w) 2 f fd ["self", "first", "second"] (spX K (preX CO) (fun _ _ => False) fun _ c => c = .ref Z) := by
  refine ok_X F.fn scPre (fun ds ⟨_, _, _, _, e, _⟩ => by rw [e]; rfl) fun cdv Ar outer sh Hp0 xE Fr ds hr hm ⟨k, rk, a, b, e, h1⟩ tk => ?_
  have nd := scPre.nd
  subst e
  show W _ _ _ _ _ [some (.d (orD CO k rk)), some (.d (mon a)), some (.d (mon b))]
  refine W.cons ?_
  refine W1.expr ?_
  refine E.dcallX tk GLenX (hr.mono (by decide)) ?_
  refine A.cons ?_
  refine E.var 1 rfl ?_
  refine A.cons ?_
  refine E.fld ?_
  refine E.var 0 rfl ?_
  refine ⟨_, _, _, _, rfl, tO.cls, tO.nd, rfl, ?_⟩
  refine A.nil ?_
  refine ⟨[_, _], rfl, ⟨a, _, rfl⟩, ?_, fun c h => h.1⟩
  rintro _ ⟨rfl, es, n, e, hl⟩
  obtain ⟨rfl, rfl⟩ := len_inj e
  refine W.cons ?_
  refine W1.expr ?_
  refine E.dcallX tk GLenX (hr.mono (by decide)) ?_
  refine A.cons ?_
  refine E.var 2 rfl ?_
  refine A.cons ?_
  refine E.fld ?_
  refine E.var 0 rfl ?_
  refine ⟨_, _, _, _, rfl, tO.cls, tO.nd, rfl, ?_⟩
  refine A.nil ?_
  refine ⟨[_, _], rfl, ⟨b, _, rfl⟩, ?_, fun c h => h.1⟩
  rintro _ ⟨rfl, es', n', e, hl'⟩
  obtain ⟨rfl, rfl⟩ := len_inj e
  exact absurd ⟨by omega, by omega⟩ h1
def preEq (CO : Addr) : List D → Prop := fun ds => ∃ (k k' : Str) (rk rk' : List Int), ds = [orD CO k rk, orD CO k' rk']
def postEq (CO : Addr) : List D → D → Prop := fun ds r => ∃ (k k' : Str) (rk rk' : List Int), ds = [orD CO k rk, orD CO k' rk'] ∧ r = .bl (decide (k = k') && decide (rk = rk'))
abbrev sOEq : Stmt := inClass (top 15) 3
theorem scOEq : FnScope ["self", "other"] ["self", "other"] (defScope sOEq) := ⟨rfl, rfl, rfl, by decide +kernel, rfl, by decide +kernel, by decide +kernel⟩
theorem ok_oeq (F : Dm K CO "__eq__" "Order.__eq__" sOEq ["self", "other"] f fd) (B : Bl mg) (tO : OrT K mg CO) : FnOk P w K mg base CX0 1 f fd ["self", "other"] (spF K (preEq CO) (postEq CO)) := by
  refine ok_F F.fn scOEq (fun ds ⟨_, _, _, _, e⟩ => by rw [e]; rfl) fun cdv Ar outer sh Hp0 xE Fr ds hr hm ⟨k, k', rk, rk', e⟩ => ?_
  have nd := scOEq.nd
  have hu := hr.units
  subst e
  show W _ _ _ _ _ [some (.d (orD CO k rk)), some (.d (orD CO k' rk'))]
  refine W.cons ?_
  refine W1.ret ?_
  refine E.and ?_
  refine E.callB B.isinstance bt_isinstance ?_
  refine A.cons ?_
  refine E.var 1 rfl ?_
  refine A.cons ?_
  refine E.globR tO.mgO ?_
  refine A.nil ?_
  refine Cl.isi (.ins tO.isc) (fun _ _ => clsv_ref) tO.kOO ?_
  refine ⟨_, rfl, ?_⟩
  refine iteT ?_
  refine E.and ?_
  refine E.cmp ?_
  refine E.fld ?_
  refine E.var 0 rfl ?_
  refine ⟨_, _, _, _, rfl, tO.cls, tO.nk, rfl, ?_⟩
  refine E.fld ?_
  refine E.var 1 rfl ?_
  refine ⟨_, _, _, _, rfl, tO.cls, tO.nk, rfl, ?_⟩
  walk_at "o"
  refine ⟨_, rfl, ?_⟩
  refine two2 (fun h1 => ?_) (fun h1 => ?_)
  · skip
    refine E.one ?_
    refine E.cmp ?_
    refine E.fld ?_
    refine E.var 0 rfl ?_
    refine ⟨_, _, _, _, rfl, tO.cls, tO.nr, rfl, ?_⟩
    refine E.fld ?_
    refine E.var 1 rfl ?_
    refine ⟨_, _, _, _, rfl, tO.cls, tO.nr, rfl, ?_⟩
    exact O2.eqIT hu ⟨_, rfl, k, k', rk, rk', rfl, by rw [h1]; rfl⟩
  · exact ⟨_, rfl, k, k', rk, rk', rfl, by rw [h1]; rfl⟩
/-- the exponents of a monomial -/
def intOf : D → Int
  | .int i => i
  | _ => 0
def esOf : D → List Int
  | .tup ds => ds.map intOf
  | _ => []
theorem esOf_mon (es : List Int) : esOf (mon es) = es := by
  show (es.map D.int).map intOf = es
  rw [List.map_map]
  exact (List.map_congr_left fun _ _ => rfl).trans (List.map_id es)
def sortM (k : Str) (rk : List Int) (pls : List (List Int)) : List (List Int) := pls.mergeSort fun a b => decide (ordK k rk a ≤ ordK k rk b)
abbrev lamK (k : Str) (rk : List Int) : D → PyData := fun d => .list ((ordK k rk (esOf d)).map .int)
theorem lam_sorted (k : Str) (rk : List Int) (pls : List (List Int)) : (pls.map mon).mergeSort (PySem.W.dataLe false (lamK k rk)) = (sortM k rk pls).map mon := by
  rw [PySem.W.dataLe_rows fun d => ordK k rk (esOf d)]
  unfold sortM
  rw [List.map_mergeSort (s := fun p q => decide (ordK k rk (esOf p) ≤ ordK k rk (esOf q)))]
  intro a _ b _
  rw [esOf_mon, esOf_mon]
theorem lam_keys {X : Cx} (k : Str) (rk : List Int) (ds : List D) (hu : X.A.units + 64 < cLine) : Keys X (lamK k rk) ds where
  al := fun d hd d' hd' => by
    obtain ⟨x, _, rfl⟩ := List.mem_map.mp hd
    obtain ⟨y, _, rfl⟩ := List.mem_map.mp hd'
    exact alike_ints _ _
  so := .inr fun d hd => by
    obtain ⟨x, _, rfl⟩ := List.mem_map.mp hd
    exact ⟨(fun z => by cases z), fun _ z => by cases z⟩
  dp := fun d _ => by
    have := dep_ints (ordK k rk (esOf d))
    show X.A.units + 2 + (PyData.list ((ordK k rk (esOf d)).map PyData.int)).depth < cLine
    omega
abbrev lamQ : Str := (("Order.arranged" : Str) ++ (".<locals>." : Str)) ++ ("<lambda>" : Str)
def preArr (CO : Addr) (k : Str) (rk : List Int) (pls : List (List Int)) : List (Addr × List D) → List D → Prop := fun bs ds => ∃ r, ds = [orD CO k rk, r] ∧ IsArg bs r (pls.map mon)
abbrev sArr : Stmt := inClass (top 15) 2
theorem scArr : FnScope ["self", "monomials", "exponents"] ["self", "monomials"] (defScope sArr) := ⟨rfl, rfl, rfl, by decide +kernel, rfl, by decide +kernel, by decide +kernel⟩
set_option maxHeartbeats 400000 in
theorem ok_arr {k : Str} {rk : List Int} {pls : List (List Int)} {c T : Addr} (hrk : RkOk rk) (hp : ∀ es ∈ pls, es.length = rk.length) (hz : pls.length ≤ 100) (hcd : fd.code = .ref c) (TB : LamX.TabB base mg c T) (F : Dm K CO "arranged" "Order.arranged" sArr ["self", "monomials"] f fd) (B : Bl mg) (tO : OrT K mg CO)
    (GLen : KLen P w K mg base) (GKey : KKey P w K mg base) : FnOk P w K mg base CX0 5 f fd ["self", "monomials"] (spTN K T lamQ (preArr CO k rk pls) fun _ qs => qs = (sortM k rk pls).map mon) := by
  refine ok_TN F.fn scArr (fun bs ds ⟨_, e, _⟩ => by rw [e]; rfl) fun Ar outer sh Hp0 xE Fr bs ds hr hla hbs ⟨r, e, ha⟩ => ?_
  have nd := scArr.nd
  have hu := hr.units
  have q : IsSeq K Fr (.d r) (pls.map mon) := ha.seq hbs
  subst e
  show W _ _ _ _ [.tab lamQ] [some (.d (orD CO k rk)), some (.d r), none]
  refine W.cut (fun o ρ => ∃ z, o = [.tab lamQ] ∧ ρ = [some (.d (orD CO k rk)), some (.d r), z]) ?_ ?_
  · refine W1.forQ (fun i o ρ => ∃ z, o = [.tab lamQ] ∧ ρ = [some (.d (orD CO k rk)), some (.d r), z]) q rfl PassesOwn.never ?_
    refine E.var 1 rfl ?_
    refine ⟨rfl, ⟨_, rfl, rfl⟩, ?_, ?_⟩
    · rintro i d o ρ hd ⟨z, rfl, rfl⟩
      obtain ⟨es, hm, rfl⟩ := List.mem_map.mp (List.mem_of_getElem? hd)
      have hl := hp es hm
      refine Tg.name 2 ?_ nd
      refine W.cons ?_
      refine W1.expr ?_
      refine E.dcall GLen (hr.mono (by decide)) ?_
      refine A.cons ?_
      refine E.var 2 rfl ?_
      refine A.cons ?_
      refine E.fld ?_
      refine E.var 0 rfl ?_
      refine ⟨_, _, _, _, rfl, tO.cls, tO.nd, rfl, ?_⟩
      refine A.nil ?_
      refine ⟨[_, _], rfl, ⟨es, by rw [hl]⟩, ?_⟩
      rintro _ rfl
      exact W.nil ⟨_, rfl, rfl⟩
    · rintro o ρ ⟨z, rfl, rfl⟩
      exact ⟨z, rfl, rfl⟩
  rintro o ρ ⟨z, rfl, rfl⟩
  refine W.cons ?_
  refine W1.ret ?_
  refine E.sortL (nw := true) (N' := ["exponents", "self"]) (fr := ["self"]) (y := "exponents") (js := [0]) (k := 1) (lamK k rk) [orD CO k rk] TB ?hc hla ?hS ?hb ?hn rfl rfl (hr.mono (by decide)) B.sorted ?_
  case hc => exact hcd
  case hS => exact ⟨rfl, rfl, rfl, by decide +kernel, rfl, by decide +kernel, by decide +kernel, by decide +kernel, by decide +kernel⟩
  case hb => exact fun _ _ _ _ => rfl
  case hn => kernel_rfl
  skip -- sorted(list(monomials), key=lambda exponents: order_key(self.kind, self.ranking, exponents)) i
  refine E.callTy B.list bt_list ?_
  refine A.cons ?_
  refine E.var 1 rfl ?_
  refine A.nil ?_
  walk_at "cl"
  refine ⟨_, rfl, rfl, lam_keys k rk _ hu, fun d hd f c1 A1 out1 s1 H1 Fr1 hr1 hm1 => ?_, ?_⟩
  · obtain ⟨es, hm, rfl⟩ := List.mem_map.mp hd
    show E _ _ _ _ _ [some (.d (mon es)), some (.d (orD CO k rk))]
    refine E.dcall GKey (hr1.mono (by decide)) ?_
    refine A.cons ?_
    refine E.fld ?_
    refine E.var 1 rfl ?_
    refine ⟨_, _, _, _, rfl, tO.cls, tO.nk, rfl, ?_⟩
    refine A.cons ?_
    refine E.fld ?_
    refine E.var 1 rfl ?_
    refine ⟨_, _, _, _, rfl, tO.cls, tO.nr, rfl, ?_⟩
    refine A.cons ?_
    refine E.var 0 rfl ?_
    refine A.nil ?_
    refine ⟨[_, _, _], rfl, ⟨k, rk, es, rfl, hrk.2.1, hrk.ix (hp es hm)⟩, ?_⟩
    rintro _ ⟨_, _, _, e, rfl⟩
    obtain ⟨rfl, rfl, rfl⟩ := key_inj e
    refine ⟨_, rfl, ?_, ?_⟩
    · exact Enc.int.lst.pl (ordK _ _ _)
    · simp only [pyd, pyds_map]
      show _ = PyData.list ((ordK _ _ (esOf (mon _))).map PyData.int)
      rw [esOf_mon]
  · rw [lam_sorted]
    refine iteT ?_
    exact ⟨rfl, _, _, rfl, rfl, rfl⟩
theorem ok_arrX {k : Str} {rk : List Int} {pls : List (List Int)} {Z : Addr} (hw : ∃ es ∈ pls, es.length ≠ rk.length) (F : Dm K CO "arranged" "Order.arranged" sArr ["self", "monomials"] f fd) (tO : OrT K mg CO) (GLenX : KLenX P w K mg base Z) :
    FnOk P w K mg base (L2.CX P w) 2 f fd ["self", "monomials"] (spX K (fun ds => ds = [orD CO k rk, .lst (pls.map mon)]) (fun _ _ => False) fun _ c => c = .ref Z) := by
  refine ok_X F.fn scArr (fun ds e => by rw [e]; rfl) fun cdv Ar outer sh Hp0 xE Fr ds hr hm e tk => ?_
  have nd := scArr.nd
  subst e
  show W _ _ _ _ _ [some (.d (orD CO k rk)), some (.d (.lst (pls.map mon))), none]
  refine W.cut (fun o ρ => False) ?_ (fun _ _ z => z.elim)
  refine W1.forL (fun i o ρ => (∃ z, o = [] ∧ ρ = [some (.d (orD CO k rk)), some (.d (.lst (pls.map mon))), z]) ∧ ∀ es ∈ pls.take i, es.length = rk.length) rfl (passes_of rfl) ?_
  refine E.var 1 rfl ?_
  refine ⟨_, .inl rfl, ⟨⟨_, rfl, rfl⟩, by simp⟩, ?_, ?_⟩
  · rintro i d o ρ hd ⟨⟨z, rfl, rfl⟩, hall⟩
    rw [List.getElem?_map, Option.map_eq_some_iff] at hd
    obtain ⟨es, he, rfl⟩ := hd
    refine Tg.name 2 ?_ nd
    refine W.cons ?_
    refine W1.expr ?_
    refine E.dcallX tk GLenX (hr.mono (by decide)) ?_
    refine A.cons ?_
    refine E.var 2 rfl ?_
    refine A.cons ?_
    refine E.fld ?_
    refine E.var 0 rfl ?_
    refine ⟨_, _, _, _, rfl, tO.cls, tO.nd, rfl, ?_⟩
    refine A.nil ?_
    refine ⟨[_, _], rfl, ⟨es, _, rfl⟩, ?_, fun c h => h.1⟩
    rintro _ ⟨rfl, es', n, e, hl⟩
    obtain ⟨rfl, rfl⟩ := len_inj e
    refine W.nil ⟨⟨_, rfl, rfl⟩, fun x hx => ?_⟩
    rw [List.take_add_one, he] at hx
    rcases List.mem_append.mp hx with h | h
    · exact hall x h
    · simp at h
      subst h
      omega
  · rintro o ρ ⟨_, hall⟩
    obtain ⟨es, h1, h2⟩ := hw
    exact absurd (hall es (by rw [List.length_map, List.take_length]; exact h1)) h2
end

/-- the script's numbers as the drawing defs hold them -/
def PoolI (ps : List D) : Prop := ∃ (gs ss : List Int) (n : Int), ps = [.lst (gs.map D.int), .lst (ss.map D.int), .int n] ∧ (∀ g ∈ gs, 0 ≤ g) ∧ (∀ s ∈ ss, 0 ≤ s) ∧ 0 < ss.length ∧ gs.length ≤ 100 ∧ ss.length ≤ 100 ∧ 0 ≤ n
def preTake : List D → Prop := fun ds => ∃ m : Int, ds = [.int m] ∧ m.natAbs < 2 ^ 1000
def postTake : List D → D → Prop := fun ds d => ∃ m r : Int, ds = [.int m] ∧ d = .int r ∧ 0 ≤ r ∧ (2 ≤ m → r < m) ∧ (m < 2 → r = 0)
abbrev sTake : Stmt := top 18
theorem scTake : FnScope ["pool", "most", "value", "rest", "count", "seed", "mixed"] ["pool", "most"] (defScope sTake) := ⟨rfl, rfl, rfl, by decide +kernel, rfl, by decide +kernel, by decide +kernel⟩
section
variable {P : Program} {w : World} {K : PySem.W.Frag} {mg : Str → Option Value} {base : Heap}
set_option maxHeartbeats 1000000 in
theorem ok_take {f : Addr} {fd : FuncData} (F : Fun K "_law_take" "_law_take" sTake f fd) (B : Bl mg) : FnOk P w K mg base CX0 1 f fd ["pool", "most"] (spP K PoolI preTake postTake) := by
  refine ok_P F scTake (fun ds ⟨m, e, _⟩ => by rw [e]; rfl) fun cdv Ar outer sh Hp0 xE Fr ds hr ⟨m, e, hm⟩ => ?_
  subst e
  have nd := scTake.nd
  show W _ _ _ _ _ [some (.c 0), some (.d (.int m)), none, none, none, none, none]
  refine W.openC 0 rfl fun ps ⟨gs, ss, n, e, hg, hs, h0, hgl, hsl, hn⟩ => ?_
  subst e
  have hp : PoolI [.lst (gs.map D.int), .lst (ss.map D.int), .int n] := ⟨gs, ss, n, rfl, hg, hs, h0, hgl, hsl, hn⟩
  refine W.cons ?_
  refine W1.iff ?_
  refine T.cmp ?_
  refine E.var 1 rfl ?_
  refine E.int ?_
  walk_at "o"
  refine ⟨_, rfl, ?_⟩
  refine ifd (fun h => ?_) (fun h2 => ?_)
  · skip
    refine W.cons ?_
    refine W1.ret ?_
    refine E.int ?_
    exact ⟨.inr ⟨_, rfl, hp⟩, _, rfl, m, 0, rfl, rfl, by omega, fun z => by omega, fun _ => rfl⟩
  refine W.nil ?_
  have h0m : (0 : Int) < m := by omega
  refine W.cons ?_
  refine W1.iff ?_
  refine T.cmp ?_
  refine E.callB B.len bt_len ?_
  refine A.cons ?_
  refine E.ix ?_
  refine E.var 0 rfl ?_
  refine E.int ?_
  walk_at "ix"
  refine A.nil ?_
  walk_at "cl"
  refine E.int ?_
  walk_at "o"
  refine ⟨_, rfl, ?_⟩
  refine ifd (fun h => ?_) (fun h => ?_)
  · obtain ⟨g, gs, rfl⟩ : ∃ g r, gs = g :: r := by cases gs with
      | nil => simp at h
      | cons g r => exact ⟨g, r, rfl⟩
    have e1 : DL.cutD (D.int g :: gs.map D.int) (some 1) none = gs.map D.int := cut1
    have hdv : CDivW g m := wide_div (by omega) hm (by decide) (by decide)
    have hg0 : 0 ≤ g := hg g (List.mem_cons_self ..)
    have hq : 0 ≤ g / m := Int.ediv_nonneg hg0 (by omega)
    have hr0 := Int.emod_nonneg g (show m ≠ 0 by omega)
    have hr1 := Int.emod_lt_of_pos g h0m
    have hlen : gs.length ≤ 99 := by simpa using hgl
    have hpA : PoolI [.lst (gs.map D.int), .lst (ss.map D.int), .int n] := ⟨gs, ss, n, rfl, fun x hx => hg x (List.mem_cons_of_mem _ hx), hs, h0, by omega, hsl, hn⟩
    have hpB : PoolI [.lst ((g / m :: gs).map D.int), .lst (ss.map D.int), .int n] := ⟨g / m :: gs, ss, n, rfl, fun x hx => by
      rcases List.mem_cons.mp hx with z | z
      · rw [z]; exact hq
      · exact hg x (List.mem_cons_of_mem _ z), hs, h0, by simpa using hgl, hsl, hn⟩
    refine W.cons ?_
    refine W1.set 2 ?_ nd
    refine E.ix ?_
    refine E.ix ?_
    refine E.var 0 rfl ?_
    refine E.int ?_
    walk_at "ix"
    refine E.int ?_
    walk_at "ix"
    walk_at "n"
    refine W.cons ?_
    refine W1.set 3 ?_ nd
    refine E.callTy B.list bt_list ?_
    refine A.cons ?_
    refine E.slice ?_
    refine E.ix ?_
    refine E.var 0 rfl ?_
    refine E.int ?_
    walk_at "ix"
    refine PoE.some ?_
    refine E.int ?_
    refine ⟨_, rfl, ?_⟩
    refine PoE.none ?_
    walk_at "sl"
    refine A.nil ?_
    walk_at "cl"
    walk_at "n"
    rw [show (List.map D.int (g :: gs)) = D.int g :: gs.map D.int from rfl, e1]
    refine W.cons ?_
    refine W1.iff ?_
    refine T.cmp ?_
    refine E.bin ?_
    refine E.var 2 rfl ?_
    refine E.var 1 rfl ?_
    walk_at "o"
    refine E.int ?_
    walk_at "o"
    refine ⟨_, rfl, ?_⟩
    refine ifd (fun h => ?_) (fun h => ?_)
    · skip
      refine W.cons ?_
      refine W1.set 3 ?_ nd
      refine E.bin ?_
      refine E.lst ?_
      refine A.cons ?_
      refine E.bin ?_
      refine E.var 2 rfl ?_
      refine E.var 1 rfl ?_
      walk_at "o"
      refine A.nil ?_
      walk_at "disp"
      refine E.var 3 rfl ?_
      walk_at "o"
      walk_at "n"
      refine W.nil ?_
      refine W.cons ?_
      refine W1.setIx ?_
      refine E.var 3 rfl ?_
      refine E.var 0 rfl ?_
      refine E.int ?_
      walk_at "six"
      refine W.cons ?_
      refine W1.ret ?_
      refine E.bin ?_
      refine E.callTy B.int bt_int ?_
      refine A.cons ?_
      refine E.var 2 rfl ?_
      refine A.nil ?_
      walk_at "cl"
      refine E.var 1 rfl ?_
      walk_at "o"
      exact ⟨.inr ⟨_, rfl, hpB⟩, _, rfl, m, _, rfl, rfl, hr0, fun _ => hr1, fun z => absurd z h2⟩
    · refine W.nil ?_
      refine W.cons ?_
      refine W1.setIx ?_
      refine E.var 3 rfl ?_
      refine E.var 0 rfl ?_
      refine E.int ?_
      walk_at "six"
      refine W.cons ?_
      refine W1.ret ?_
      refine E.bin ?_
      refine E.callTy B.int bt_int ?_
      refine A.cons ?_
      refine E.var 2 rfl ?_
      refine A.nil ?_
      walk_at "cl"
      refine E.var 1 rfl ?_
      walk_at "o"
      exact ⟨.inr ⟨_, rfl, hpA⟩, _, rfl, m, _, rfl, rfl, hr0, fun _ => hr1, fun z => absurd z h2⟩
  · refine W.nil ?_
    have hss : (0 : Int) < ((ss.map D.int).length : Int) := by rw [List.length_map]; omega
    obtain ⟨s, hi, hs0⟩ : ∃ s : Int, atI (ss.map D.int) (n / 4 % ((ss.map D.int).length : Int)) = some (D.int s) ∧ 0 ≤ s := by
      have h1 := Int.emod_nonneg (n / 4) (show ((ss.map D.int).length : Int) ≠ 0 by omega)
      have h2 := Int.emod_lt_of_pos (n / 4) hss
      generalize n / 4 % ((ss.map D.int).length : Int) = j at h1 h2
      obtain ⟨j, rfl⟩ := Int.eq_ofNat_of_zero_le h1
      have hj : j < ss.length := by rw [List.length_map] at h2; omega
      exact ⟨ss[j], atI_nat (by rw [List.getElem?_map, List.getElem?_eq_getElem hj]; rfl), hs _ (List.getElem_mem hj)⟩
    have hpC : PoolI [.lst (gs.map D.int), .lst (ss.map D.int), .int (n + 1)] := ⟨gs, ss, n + 1, rfl, hg, hs, h0, hgl, hsl, by omega⟩
    refine W.cons ?_
    refine W1.set 4 ?_ nd
    refine E.ix ?_
    refine E.var 0 rfl ?_
    refine E.int ?_
    walk_at "ix"
    walk_at "n"
    refine W.cons ?_
    refine W1.setIx ?_
    refine E.bin ?_
    refine E.var 4 rfl ?_
    refine E.int ?_
    walk_at "o"
    refine E.var 0 rfl ?_
    refine E.int ?_
    walk_at "six"
    refine W.cons ?_
    refine W1.set 5 ?_ nd
    refine E.ix ?_
    refine E.ix ?_
    refine E.var 0 rfl ?_
    refine E.int ?_
    walk_at "ix"
    refine E.bin ?_
    refine E.callTy B.int bt_int ?_
    refine A.cons ?_
    refine E.bin ?_
    refine E.var 4 rfl ?_
    refine E.int ?_
    walk_at "o"
    refine A.nil ?_
    walk_at "cl"
    refine E.callB B.len bt_len ?_
    refine A.cons ?_
    refine E.ix ?_
    refine E.var 0 rfl ?_
    refine E.int ?_
    walk_at "ix"
    refine A.nil ?_
    walk_at "cl"
    walk_at "o"
    walk_at "ix"
    walk_at "n"
    refine W.cons ?_
    refine W1.set 6 ?_ nd
    refine E.bin ?_
    refine E.callTy B.int bt_int ?_
    refine A.cons ?_
    refine E.bin ?_
    refine E.bin ?_
    refine E.bin ?_
    refine E.var 5 rfl ?_
    refine E.int ?_
    walk_at "o"
    refine E.bin ?_
    refine E.var 4 rfl ?_
    refine E.int ?_
    walk_at "o"
    walk_at "o"
    refine E.int ?_
    walk_at "o"
    refine A.nil ?_
    walk_at "cl"
    refine E.int ?_
    walk_at "o"
    walk_at "n"
    refine W.cons ?_
    refine W1.set 6 ?_ nd
    refine E.bin ?_
    refine E.callTy B.int bt_int ?_
    refine A.cons ?_
    refine E.bin ?_
    refine E.bin ?_
    refine E.bin ?_
    refine E.var 6 rfl ?_
    refine E.var 6 rfl ?_
    walk_at "o"
    refine E.bin ?_
    refine E.var 4 rfl ?_
    refine E.int ?_
    walk_at "o"
    walk_at "o"
    refine E.int ?_
    walk_at "o"
    refine A.nil ?_
    walk_at "cl"
    refine E.int ?_
    walk_at "o"
    walk_at "n"
    refine W.cons ?_
    refine W1.set 6 ?_ nd
    refine E.bin ?_
    refine E.callTy B.int bt_int ?_
    refine A.cons ?_
    refine E.bin ?_
    refine E.bin ?_
    refine E.bin ?_
    refine E.var 6 rfl ?_
    refine E.var 6 rfl ?_
    walk_at "o"
    refine E.var 5 rfl ?_
    walk_at "o"
    refine E.int ?_
    walk_at "o"
    refine A.nil ?_
    walk_at "cl"
    refine E.int ?_
    walk_at "o"
    walk_at "n"
    refine W.cons ?_
    refine W1.ret ?_
    refine E.bin ?_
    refine E.callTy B.int bt_int ?_
    refine A.cons ?_
    refine E.bin ?_
    refine E.var 6 rfl ?_
    refine E.int ?_
    walk_at "o"
    refine A.nil ?_
    walk_at "cl"
    refine E.var 1 rfl ?_
    walk_at "o"
    have fin : ∀ x : Int, 0 ≤ x % m ∧ (2 ≤ m → x % m < m) := fun x => ⟨Int.emod_nonneg x (by omega), fun _ => Int.emod_lt_of_pos x h0m⟩
    exact ⟨.inr ⟨_, rfl, hpC⟩, _, rfl, m, _, rfl, rfl, (fin _).1, (fin _).2, fun z => absurd z h2⟩
end

section
variable {P : Program} {w : World} {K : PySem.W.Frag} {mg : Str → Option Value} {base : Heap} {f : Addr} {fd : FuncData}
abbrev intL (ns : List Int) : List R := (ns.map D.int).map R.d
def preP : List D → Prop := fun ds => ∃ ns : List Int, ds = [.rol (ns.map D.int)] ∧ ns.length ≤ 63
theorem ints_snoc {ns : List Int} {n : Int} : intL ns ++ [.d (.int n)] = intL (ns ++ [n]) := by simp [intL]
abbrev sPool : Stmt := top 17
theorem scPool : FnScope ["script", "greats", "smalls", "cell"] ["script"] (defScope sPool) := ⟨rfl, rfl, rfl, by decide +kernel, rfl, by decide +kernel, by decide +kernel⟩
theorem ok_pool (F : Df K mg "_law_pool" sPool ["script"] f fd) (B : Bl mg) : FnOk P w K mg base CX0 1 f fd ["script"] (spN K preP fun _ => PoolI) := by
  refine ok_N F.fn scPool (fun ds ⟨_, e, _⟩ => by rw [e]; rfl) fun cdv Ar outer sh Hp0 xE Fr ds hr hm ⟨ns, e, hz⟩ => ?_
  have nd := scPool.nd
  subst e
  show W _ _ _ _ _ [some (.d (.rol (ns.map D.int))), none, none, none]
  refine W.cons ?_
  refine W1.set 1 ?_ nd
  refine E.lstC ?_
  refine A.nil ?_
  walk_at "dispC"
  walk_at "n"
  refine W.cons ?_
  refine W1.set 2 ?_ nd
  refine E.lstC ?_
  refine A.nil ?_
  walk_at "dispC"
  walk_at "n"
  refine W.cut (fun o r => ∃ gs ss c, o = [.lst (intL gs), .lst (intL ss)] ∧ r = [some (.d (.rol (ns.map D.int))), some (.c 0), some (.c 1), c] ∧ (∀ g ∈ gs, 0 ≤ g) ∧ (∀ s ∈ ss, 0 ≤ s) ∧ gs.length + ss.length = ns.length) ?_ ?_
  · refine W1.forL (fun i o r => ∃ gs ss c, o = [.lst (intL gs), .lst (intL ss)] ∧ r = [some (.d (.rol (ns.map D.int))), some (.c 0), some (.c 1), c] ∧ (∀ g ∈ gs, 0 ≤ g) ∧ (∀ s ∈ ss, 0 ≤ s) ∧ gs.length + ss.length = i) rfl PassesOwn.never ?_
    refine E.var 0 rfl ?_
    refine ⟨_, .inr rfl, ⟨[], [], _, rfl, rfl, by simp, by simp, rfl⟩, ?_, ?_⟩
    · rintro i d o ρ hd ⟨gs, ss, c, rfl, rfl, hg, hs, hl⟩
      have hi : i < ns.length := by have := (List.getElem?_eq_some_iff.mp hd).1; simpa using this
      rw [List.getElem?_map, List.getElem?_eq_getElem hi] at hd
      cases hd
      have hlg : gs.length < 63 ∧ ss.length < 63 := by omega
      generalize ns[i] = x
      have hx : (0 : Int) ≤ (x.natAbs : Int) := by omega
      refine Tg.name 3 ?_ nd
      refine W.cons ?_
      refine W1.iff ?_
      refine T.cmp ?_
      refine E.callB B.abs bt_abs ?_
      refine A.cons ?_
      refine E.callTy B.int bt_int ?_
      refine A.cons ?_
      refine E.var 3 rfl ?_
      refine A.nil ?_
      walk_at "cl"
      refine A.nil ?_
      walk_at "cl"
      refine E.bin ?_
      refine E.int ?_
      refine E.int ?_
      walk_at "o"
      walk_at "o"
      refine ⟨_, rfl, ?_⟩
      refine ifd (fun h => ?_) (fun h => ?_)
      · skip
        refine W.cons ?_
        refine W1.expr ?_
        refine E.append ?_
        refine E.var 1 rfl ?_
        refine ⟨_, rfl, ?_, ?_⟩; rotate_left; exact ⟨_, rfl⟩
        refine E.callB B.abs bt_abs ?_
        refine A.cons ?_
        refine E.callTy B.int bt_int ?_
        refine A.cons ?_
        refine E.var 3 rfl ?_
        refine A.nil ?_
        walk_at "cl"
        refine A.nil ?_
        walk_at "cl"
        walk_at "app"
        refine W.nil (W.nil ⟨gs ++ [(x.natAbs : Int)], ss, _, by rw [ints_snoc]; rfl, rfl, ?_, hs, by simp; omega⟩)
        intro g hg'
        rcases List.mem_append.mp hg' with z | z
        · exact hg g z
        · rw [List.mem_singleton.mp z]; exact hx
      · skip
        refine W.cons ?_
        refine W1.expr ?_
        refine E.append ?_
        refine E.var 2 rfl ?_
        refine ⟨_, rfl, ?_, ?_⟩; rotate_left; exact ⟨_, rfl⟩
        refine E.callB B.abs bt_abs ?_
        refine A.cons ?_
        refine E.callTy B.int bt_int ?_
        refine A.cons ?_
        refine E.var 3 rfl ?_
        refine A.nil ?_
        walk_at "cl"
        refine A.nil ?_
        walk_at "cl"
        walk_at "app"
        refine W.nil (W.nil ⟨gs, ss ++ [(x.natAbs : Int)], _, by rw [ints_snoc]; rfl, rfl, hg, ?_, by simp; omega⟩)
        intro g hg'
        rcases List.mem_append.mp hg' with z | z
        · exact hs g z
        · rw [List.mem_singleton.mp z]; exact hx
    · rintro o ρ ⟨gs, ss, c, rfl, rfl, hg, hs, hl⟩
      exact ⟨gs, ss, c, rfl, rfl, hg, hs, by rw [hl, List.length_map]⟩
  rintro o ρ ⟨gs, ss, c, rfl, rfl, hg, hs, hl⟩
  have hl1 : gs.length ≤ 63 ∧ ss.length ≤ 63 := by omega
  refine W.cut (fun o r => ∃ gs ss c, o = [.lst (intL gs), .lst (intL ss)] ∧ r = [some (.d (.rol (ns.map D.int))), some (.c 0), some (.c 1), c] ∧ (∀ g ∈ gs, 0 ≤ g) ∧ (∀ s ∈ ss, 0 ≤ s) ∧ 0 < ss.length ∧ gs.length ≤ 64 ∧ ss.length ≤ 64) ?_ ?_
  · have e : ∀ X : Nat, X = X := fun _ => rfl
    refine W1.iff ?_
    refine T.cmp ?_
    refine E.callB B.len bt_len ?_
    refine A.cons ?_
    refine E.var 2 rfl ?_
    refine A.nil ?_
    walk_at "cl"
    refine E.int ?_
    walk_at "o"
    refine ⟨_, rfl, ?_⟩
    refine ifd (fun h => ?_) (fun h => ?_)
    · skip
      refine W.cons ?_
      refine W1.expr ?_
      refine E.append ?_
      refine E.var 2 rfl ?_
      refine ⟨_, rfl, ?_, ?_⟩; rotate_left; exact ⟨_, rfl⟩
      refine E.callB B.len bt_len ?_
      refine A.cons ?_
      refine E.var 1 rfl ?_
      refine A.nil ?_
      walk_at "cl"
      walk_at "app"
      refine W.nil ⟨gs, ss ++ [_], _, by rw [ints_snoc]; rfl, rfl, hg, ?_, by simp, by omega, by simp; omega⟩
      intro g hg'
      rcases List.mem_append.mp hg' with z | z
      · exact hs g z
      · rw [List.mem_singleton.mp z]; omega
    · refine W.nil ⟨gs, ss, _, rfl, rfl, hg, hs, ?_, by omega, by omega⟩
      simp at h
      exact List.length_pos_iff.mpr h
  rintro o ρ ⟨gs, ss, c, rfl, rfl, hg, hs, h0, h1, h2⟩
  refine W.freeze 0 rfl (W.freeze 1 rfl ?_)
  show W _ _ _ _ [.gone, .gone] [some (.d (.rol (ns.map D.int))), some (.d (.lst (gs.map D.int))), some (.d (.lst (ss.map D.int))), _]
  refine W.cons ?_
  refine W1.ret ?_
  refine E.lstC ?_
  refine A.cons ?_
  refine E.var 1 rfl ?_
  refine A.cons ?_
  refine E.var 2 rfl ?_
  refine A.cons ?_
  refine E.int ?_
  refine A.nil ?_
  walk_at "dispC"
  exact ⟨2, [.lst (gs.map D.int), .lst (ss.map D.int), .int 0], rfl, rfl, gs, ss, 0, rfl, hg, hs, h0, by omega, by omega, by omega⟩
end

section
variable {P : Program} {w : World} {K : PySem.W.Frag} {mg : Str → Option Value} {base : Heap} {CO : Addr} {f : Addr} {fd : FuncData}
abbrev sInteger : Stmt := top 19
theorem scInteger : FnScope ["thing"] ["thing"] (defScope sInteger) := ⟨rfl, rfl, rfl, by decide +kernel, rfl, by decide +kernel, by decide +kernel⟩
theorem ok_integer (F : Df K mg "_law_integer" sInteger ["thing"] f fd) (B : Bl mg) (kii : PySem.W.kitOne K (.type "int") (.type "int") = some true) (kib : PySem.W.kitOne K (.type "int") (.type "bool") = some false) : FnOk P w K mg base CX0 1 f fd ["thing"] (spF K (fun ds => ∃ i, ds = [.int i]) fun _ r => r = .bl true) := by
  refine ok_F F.fn scInteger (fun ds ⟨_, e⟩ => by rw [e]; rfl) fun cdv Ar outer sh Hp0 xE Fr ds hr hm ⟨i, e⟩ => ?_
  have nd := scInteger.nd
  subst e
  show W _ _ _ _ _ [some (.d (.int i))]
  refine W.cons ?_
  refine W1.ret ?_
  refine E.and ?_
  refine E.callB B.isinstance bt_isinstance ?_
  refine A.cons ?_
  refine E.var 0 rfl ?_
  refine A.cons ?_
  refine E.bty B.int bt_int ?_
  refine A.nil ?_
  refine Cl.isi .int (fun _ _ => clsv_ty) kii ?_
  refine ⟨_, rfl, ?_⟩
  refine iteT ?_
  refine E.one ?_
  refine E.not ?_
  refine E.callB B.isinstance bt_isinstance ?_
  refine A.cons ?_
  refine E.var 0 rfl ?_
  refine A.cons ?_
  refine E.bty B.bool bt_bool ?_
  refine A.nil ?_
  refine Cl.isi .int (fun _ _ => clsv_ty) kib ?_
  refine ⟨_, rfl, ?_⟩
  exact ⟨_, rfl, rfl⟩
abbrev sSays : Stmt := top 26
theorem scSays : FnScope ["told", "due"] ["told", "due"] (defScope sSays) := ⟨rfl, rfl, rfl, by decide +kernel, rfl, by decide +kernel, by decide +kernel⟩
theorem ok_says (F : Df K mg "_law_says" sSays ["told", "due"] f fd) (B : Bl mg) (kbb : PySem.W.kitOne K (.type "bool") (.type "bool") = some true) : FnOk P w K mg base CX0 1 f fd ["told", "due"] (spF K (fun ds => ∃ a b : Bool, ds = [.bl a, .bl b]) fun ds r => ∃ a b : Bool, ds = [.bl a, .bl b] ∧ r = .bl (a == b)) := by
  refine ok_F F.fn scSays (fun ds ⟨_, _, e⟩ => by rw [e]; rfl) fun cdv Ar outer sh Hp0 xE Fr ds hr hm ⟨a, b, e⟩ => ?_
  have nd := scSays.nd
  subst e
  show W _ _ _ _ _ [some (.d (.bl a)), some (.d (.bl b))]
  refine W.cons ?_
  refine W1.ret ?_
  refine E.and ?_
  refine E.callB B.isinstance bt_isinstance ?_
  refine A.cons ?_
  refine E.var 0 rfl ?_
  refine A.cons ?_
  refine E.bty B.bool bt_bool ?_
  refine A.nil ?_
  refine Cl.isi .bl (fun _ _ => clsv_ty) kbb ?_
  refine ⟨_, rfl, ?_⟩
  refine iteT ?_
  refine E.one ?_
  refine E.cmp ?_
  refine E.var 0 rfl ?_
  refine E.var 1 rfl ?_
  walk_at "o"
  exact ⟨_, rfl, a, b, rfl, rfl⟩
/-- the law's own comparison -/
def difI (rk a b : List Int) : Option Int := rk.find? fun i => !decide (ixI a i = ixI b i)
def earI (k : Str) (rk a b : List Int) : Bool :=
  if k = kDeg ∧ a.sum ≠ b.sum then decide (a.sum < b.sum)
  else match difI rk a b with
    | some i => decide (ixI b i < ixI a i) == decide (k = kDeg)
    | none => false
def preEar : List D → Prop := fun ds => ∃ (k : Str) (rk a b : List Int), ds = [.str k, ilst rk, mon a, mon b] ∧ rk.length ≤ 3 ∧ (∀ i ∈ rk, 0 ≤ i ∧ i < a.length) ∧ b.length = a.length
def postEar : List D → D → Prop := fun ds r => ∃ (k : Str) (rk a b : List Int), ds = [.str k, ilst rk, mon a, mon b] ∧ r = .bl (earI k rk a b)
abbrev sEar : Stmt := top 24
theorem scEar : FnScope ["kind", "ranking", "one", "two", "index"] ["kind", "ranking", "one", "two"] (defScope sEar) := ⟨rfl, rfl, rfl, by decide +kernel, rfl, by decide +kernel, by decide +kernel⟩
theorem ok_ear (F : Df K mg "_law_earlier" sEar ["kind", "ranking", "one", "two"] f fd) (B : Bl mg) : FnOk P w K mg base CX0 1 f fd ["kind", "ranking", "one", "two"] (spF K preEar postEar) := by
  refine ok_F F.fn scEar (fun ds ⟨_, _, _, _, e, _⟩ => by rw [e]; rfl) fun cdv Ar outer sh Hp0 xE Fr ds hr hm ⟨k, rk, a, b, e, h1, h2, h3⟩ => ?_
  have nd := scEar.nd
  subst e
  show W _ _ _ _ _ [some (.d (.str k)), some (.d (ilst rk)), some (.d (mon a)), some (.d (mon b)), none]
  refine W.cut (fun o r => o = [] ∧ r = [some (.d (.str k)), some (.d (ilst rk)), some (.d (mon a)), some (.d (mon b)), none] ∧ ¬ (k = kDeg ∧ a.sum ≠ b.sum)) ?_ ?_
  · skip
    refine W1.iff ?_
    refine Tw.t ?_
    refine Tw.and ?_
    refine T.cmp ?_
    refine E.var 0 rfl ?_
    refine E.str ?_
    walk_at "o"
    refine ⟨_, rfl, ?_⟩
    refine ifd (fun g1 => ?_) (fun g1 => W.nil ⟨rfl, rfl, fun z => g1 z.1⟩)
    refine Tw.and1 ?_
    refine T.cmp ?_
    refine E.callB B.sum bt_sum ?_
    refine A.cons ?_
    refine E.var 2 rfl ?_
    refine A.nil ?_
    walk_at "cl"
    refine E.callB B.sum bt_sum ?_
    refine A.cons ?_
    refine E.var 3 rfl ?_
    refine A.nil ?_
    walk_at "cl"
    walk_at "o"
    refine ⟨_, rfl, ?_⟩
    refine ifn (fun g2 => ?_) (fun g2 => W.nil ⟨rfl, rfl, fun z => z.2 g2⟩)
    refine W.cons ?_
    refine W1.ret ?_
    refine E.cmp ?_
    refine E.callB B.sum bt_sum ?_
    refine A.cons ?_
    refine E.var 2 rfl ?_
    refine A.nil ?_
    walk_at "cl"
    refine E.callB B.sum bt_sum ?_
    refine A.cons ?_
    refine E.var 3 rfl ?_
    refine A.nil ?_
    walk_at "cl"
    walk_at "o"
    refine ⟨_, rfl, k, rk, a, b, rfl, ?_⟩
    unfold earI
    rw [if_pos ⟨g1, g2⟩]
  rintro o ρ ⟨rfl, rfl, h0⟩
  refine W.cut (fun o r => (∃ z, o = [] ∧ r = [some (.d (.str k)), some (.d (ilst rk)), some (.d (mon a)), some (.d (mon b)), z]) ∧ difI rk a b = none) ?_ ?_
  · refine W1.forL (fun i o r => (∃ z, o = [] ∧ r = [some (.d (.str k)), some (.d (ilst rk)), some (.d (mon a)), some (.d (mon b)), z]) ∧ difI rk a b = difI (rk.drop i) a b) rfl PassesOwn.never ?_
    refine E.var 1 rfl ?_
    refine ⟨_, .inl rfl, ⟨⟨_, rfl, rfl⟩, rfl⟩, ?_, ?_⟩
    · rintro i d o ρ hd ⟨⟨z, rfl, rfl⟩, hdi⟩
      rw [List.getElem?_map, Option.map_eq_some_iff] at hd
      obtain ⟨x, hx, rfl⟩ := hd
      have hm := List.mem_of_getElem? hx
      have a1 := ixI_at (h2 x hm).1 (h2 x hm).2
      have a2 : atI (b.map D.int) x = some (.int (ixI b x)) := ixI_at (h2 x hm).1 (by rw [h3]; exact (h2 x hm).2)
      obtain ⟨hlt, ex⟩ := List.getElem?_eq_some_iff.mp hx
      have edr : rk.drop i = x :: rk.drop (i + 1) := by rw [List.drop_eq_getElem_cons hlt, ex]
      refine Tg.name 4 ?_ nd
      refine W.cons ?_
      refine W1.iff ?_
      refine T.cmp ?_
      refine E.ix ?_
      refine E.var 2 rfl ?_
      refine E.var 4 rfl ?_
      walk_at "ix"
      refine E.ix ?_
      refine E.var 3 rfl ?_
      refine E.var 4 rfl ?_
      walk_at "ix"
      walk_at "o"
      refine ⟨_, rfl, ?_⟩
      refine ifn (fun g => ?_) (fun g => ?_)
      · skip
        refine W.cons ?_
        refine W1.ret ?_
        refine E.cmp ?_
        refine E.cmp ?_
        refine E.ix ?_
        refine E.var 2 rfl ?_
        refine E.var 4 rfl ?_
        walk_at "ix"
        refine E.ix ?_
        refine E.var 3 rfl ?_
        refine E.var 4 rfl ?_
        walk_at "ix"
        walk_at "o"
        refine E.cmp ?_
        refine E.var 0 rfl ?_
        refine E.str ?_
        walk_at "o"
        walk_at "o"
        refine ⟨_, rfl, k, rk, a, b, rfl, ?_⟩
        have e2 : difI rk a b = some x := by
          rw [hdi, edr]
          unfold difI
          rw [List.find?_cons_of_pos (by simp [g])]
        unfold earI
        rw [if_neg h0, e2]
        rfl
      · refine W.nil (W.nil ⟨⟨_, rfl, rfl⟩, ?_⟩)
        rw [hdi, edr]
        unfold difI
        rw [List.find?_cons_of_neg (by simp [g])]
    · rintro o ρ ⟨hz, hdi⟩
      refine ⟨hz, ?_⟩
      rw [hdi, List.length_map, List.drop_length]
      rfl
  rintro o ρ ⟨⟨z, rfl, rfl⟩, hdi⟩
  refine W.cons ?_
  refine W1.ret ?_
  refine E.bl ?_
  refine ⟨_, rfl, k, rk, a, b, rfl, ?_⟩
  unfold earI
  rw [if_neg h0, hdi]
end

theorem mons_snoc {ms : List (List Int)} {es : List Int} : (ms.map mon).map R.d ++ [R.d (mon es)] = ((ms ++ [es]).map mon).map R.d := by simp
theorem ints_snoc' {ns : List Int} {n : Int} : (ns.map D.int).map R.d ++ [R.d (.int n)] = ((ns ++ [n]).map D.int).map R.d := by simp
section
variable {P : Program} {w : World} {K : PySem.W.Frag} {mg : Str → Option Value} {base : Heap} {CO : Addr} {f : Addr} {fd : FuncData}
/-- a monomial of the dimension -/
def MonOk (n : Int) (es : List Int) : Prop := (es.length : Int) = n ∧ ∀ e ∈ es, 0 ≤ e
def postMon : List D → D → Prop := fun ds r => ∃ (n : Int) (ms : List (List Int)), ds = [.int n, .int 8] ∧ r = .lst (ms.map mon) ∧ ms ≠ [] ∧ ms.length ≤ 2000 ∧ ∀ es ∈ ms, MonOk n es
/-- what the list of monomials is on the way -/
structure MonI (n : Int) (c : Nat) (ne : Prop) (ms : List (List Int)) : Prop where
  len : ms.length ≤ c
  ne : ne → ms ≠ []
  all : ∀ es ∈ ms, MonOk n es
theorem MonI.snoc {n : Int} {c : Nat} {ne ne' : Prop} {ms : List (List Int)} {es : List Int} (h : MonI n c ne ms) (he : MonOk n es) : MonI n (c + 1) ne' (ms ++ [es]) := ⟨by have := h.len; simp; omega, fun _ => by simp, fun x hx => by
  rcases List.mem_append.mp hx with z | z
  · exact h.all x z
  · rw [List.mem_singleton.mp z]; exact he⟩
theorem MonI.weak {n : Int} {c c' : Nat} {ne ne' : Prop} {ms : List (List Int)} (h : MonI n c ne ms) (hc : c ≤ c') (hn : ne' → ne) : MonI n c' ne' ms := ⟨Nat.le_trans h.len hc, fun z => h.ne (hn z), h.all⟩
abbrev MonS (n : Int) (c : Nat) (ne : Prop) (o : List Cell) (ρ : Ro) : Prop := ∃ ms t a b d, o = [.lst ((ms.map mon).map R.d)] ∧ ρ = [some (.d (.int n)), some (.d (.int 8)), some (.c 0), t, a, b, d] ∧ MonI n c ne ms
abbrev sMono : Stmt := top 20
theorem scMono : FnScope ["dimension", "high", "found", "total", "left", "first", "last"] ["dimension", "high"] (defScope sMono) := ⟨rfl, rfl, rfl, by decide +kernel, rfl, by decide +kernel, by decide +kernel⟩
set_option maxHeartbeats 1000000 in
theorem ok_mono (F : Df K mg "_law_monomials" sMono ["dimension", "high"] f fd) (B : Bl mg) : FnOk P w K mg base CX0 1 f fd ["dimension", "high"] (spF K (fun ds => ∃ n : Int, ds = [.int n, .int 8] ∧ 1 ≤ n ∧ n ≤ 3) postMon) := by
  refine ok_F F.fn scMono (fun ds ⟨_, e, _⟩ => by rw [e]; rfl) fun cdv Ar outer sh Hp0 xE Fr ds hr hm ⟨n, e, h1, h3⟩ => ?_
  have nd := scMono.nd
  subst e
  show W _ _ _ _ _ [some (.d (.int n)), some (.d (.int 8)), none, none, none, none, none]
  refine W.cons ?_
  refine W1.set 2 ?_ nd
  refine E.lstC ?_
  refine A.nil ?_
  walk_at "dispC"
  walk_at "n"
  refine W.cut (fun o ρ => MonS n 1800 True o ρ) ?_ ?_
  · refine W1.forR (fun i o ρ => MonS n (i * 200) (0 < i) o ρ) B.range rfl PassesOwn.never ?_
    refine E.bin ?_
    refine E.var 1 rfl ?_
    refine E.int ?_
    walk_at "o"
    refine ⟨_, rfl, ⟨by omega, by omega⟩, ⟨[], _, _, _, _, rfl, rfl, ⟨by simp, fun z => by omega, by simp⟩⟩, ?_, ?_⟩
    · rintro i o ρ hi ⟨ms, t, a, b, d, rfl, rfl, hI⟩
      have hi9 : i < 9 := by simpa using hi
      refine Tg.name 3 ?_ nd
      refine W.cut (fun o ρ => MonS n ((i + 1) * 200) True o ρ) ?_ (fun o ρ ⟨ms, t, a, b, d, e1, e2, hI⟩ => W.nil ⟨ms, t, a, b, d, e1, e2, hI.weak (Nat.le_refl _) fun _ => trivial⟩)
      refine W1.forR (fun j o ρ => ∃ ms a b d, o = [.lst ((ms.map mon).map R.d)] ∧ ρ = [some (.d (.int n)), some (.d (.int 8)), some (.c 0), some (.d (.int i)), a, b, d] ∧ MonI n (i * 200 + j * 20) (0 < i ∨ 0 < j) ms) B.range rfl PassesOwn.never ?_
      refine E.bin ?_
      refine E.var 3 rfl ?_
      refine E.int ?_
      walk_at "o"
      refine ⟨_, rfl, ⟨by omega, by omega⟩, ⟨ms, _, _, _, rfl, rfl, hI.weak (by omega) (fun z => z.elim id fun z => by omega)⟩, ?_, ?_⟩
      · rintro j o ρ hj ⟨ms, a, b, d, rfl, rfl, hI⟩
        have hj9 : j ≤ i := by omega
        refine Tg.name 4 ?_ nd
        refine W.cons ?_
        refine W1.set 5 ?_ nd
        refine E.bin ?_
        refine E.var 3 rfl ?_
        refine E.var 4 rfl ?_
        walk_at "o"
        walk_at "n"
        refine W.cut (fun o ρ => ∃ ms d, o = [.lst ((ms.map mon).map R.d)] ∧ ρ = [some (.d (.int n)), some (.d (.int 8)), some (.c 0), some (.d (.int i)), some (.d (.int j)), some (.d (.int (i - j))), d] ∧ MonI n (i * 200 + j * 20 + 1) (0 < i ∨ 0 < j ∨ n = 1) ms) ?_ ?_
        · skip
          refine W1.iff ?_
          refine Tw.t ?_
          refine Tw.and ?_
          refine T.cmp ?_
          refine E.var 0 rfl ?_
          refine E.int ?_
          walk_at "o"
          refine ⟨_, rfl, ?_⟩
          refine ifd (fun g1 => ?_) (fun g1 => W.nil ⟨ms, _, rfl, rfl, hI.weak (by omega) (by omega)⟩)
          refine Tw.and1 ?_
          refine T.cmp ?_
          refine E.var 4 rfl ?_
          refine E.int ?_
          walk_at "o"
          refine ⟨_, rfl, ?_⟩
          refine ifd (fun g2 => ?_) (fun g2 => W.nil ⟨ms, _, rfl, rfl, hI.weak (by omega) (by omega)⟩)
          have hz : ms.length ≤ 2000 := by have := hI.len; omega
          refine W.cons ?_
          refine W1.expr ?_
          refine E.append ?_
          refine E.var 2 rfl ?_
          refine ⟨_, rfl, ?_, ?_⟩; rotate_left; exact ⟨_, rfl⟩
          refine E.tup ?_
          refine A.cons ?_
          refine E.var 3 rfl ?_
          refine A.nil ?_
          walk_at "disp"
          walk_at "app"
          exact W.nil ⟨ms ++ [[(i : Int)]], _, by rw [← mons_snoc]; rfl, rfl, hI.snoc ⟨by rw [g1]; rfl, fun e he => by simp at he; omega⟩⟩
        rintro o ρ ⟨ms, d, rfl, rfl, hI⟩
        refine W.cut (fun o ρ => ∃ ms d, o = [.lst ((ms.map mon).map R.d)] ∧ ρ = [some (.d (.int n)), some (.d (.int 8)), some (.c 0), some (.d (.int i)), some (.d (.int j)), some (.d (.int (i - j))), d] ∧ MonI n (i * 200 + j * 20 + 2) (0 < i ∨ 0 < j ∨ n ≠ 3) ms) ?_ ?_
        · skip
          refine W1.iff ?_
          refine T.cmp ?_
          refine E.var 0 rfl ?_
          refine E.int ?_
          walk_at "o"
          refine ⟨_, rfl, ?_⟩
          refine ifd (fun g1 => ?_) (fun g1 => W.nil ⟨ms, _, rfl, rfl, hI.weak (by omega) (by omega)⟩)
          have hz : ms.length ≤ 2000 := by have := hI.len; omega
          refine W.cons ?_
          refine W1.expr ?_
          refine E.append ?_
          refine E.var 2 rfl ?_
          refine ⟨_, rfl, ?_, ?_⟩; rotate_left; exact ⟨_, rfl⟩
          refine E.tup ?_
          refine A.cons ?_
          refine E.var 5 rfl ?_
          refine A.cons ?_
          refine E.var 4 rfl ?_
          refine A.nil ?_
          walk_at "disp"
          walk_at "app"
          exact W.nil ⟨ms ++ [[(i : Int) - j, (j : Int)]], _, by rw [← mons_snoc]; rfl, rfl, hI.snoc ⟨by rw [g1]; rfl, fun e he => by simp at he; omega⟩⟩
        rintro o ρ ⟨ms, d, rfl, rfl, hI⟩
        refine W.cons ?_
        refine W1.iff ?_
        refine T.cmp ?_
        refine E.var 0 rfl ?_
        refine E.int ?_
        walk_at "o"
        refine ⟨_, rfl, ?_⟩
        refine ifd (fun g1 => ?_) (fun g1 => W.nil (W.nil ⟨ms, _, _, _, rfl, rfl, hI.weak (by omega) (by omega)⟩))
        refine W.cut (fun o ρ => ∃ ms d, o = [.lst ((ms.map mon).map R.d)] ∧ ρ = [some (.d (.int n)), some (.d (.int 8)), some (.c 0), some (.d (.int i)), some (.d (.int j)), some (.d (.int (i - j))), d] ∧ MonI n (i * 200 + j * 20 + 20) True ms) ?_ (fun o ρ ⟨ms, d, e1, e2, hI⟩ => W.nil (W.nil ⟨ms, _, _, d, e1, e2, hI.weak (by omega) fun _ => trivial⟩))
        refine W1.forR (fun l o ρ => ∃ ms d, o = [.lst ((ms.map mon).map R.d)] ∧ ρ = [some (.d (.int n)), some (.d (.int 8)), some (.c 0), some (.d (.int i)), some (.d (.int j)), some (.d (.int (i - j))), d] ∧ MonI n (i * 200 + j * 20 + 2 + l) (0 < l) ms) B.range rfl PassesOwn.never ?_
        refine E.bin ?_
        refine E.var 4 rfl ?_
        refine E.int ?_
        walk_at "o"
        refine ⟨_, rfl, ⟨by omega, by omega⟩, ⟨ms, _, rfl, rfl, hI.weak (by omega) (by omega)⟩, ?_, ?_⟩
        · rintro l o ρ hl ⟨ms, d, rfl, rfl, hI⟩
          refine Tg.name 6 ?_ nd
          have hz : ms.length ≤ 2000 := by have := hI.len; omega
          refine W.cons ?_
          refine W1.expr ?_
          refine E.append ?_
          refine E.var 2 rfl ?_
          refine ⟨_, rfl, ?_, ?_⟩; rotate_left; exact ⟨_, rfl⟩
          refine E.tup ?_
          refine A.cons ?_
          refine E.var 5 rfl ?_
          refine A.cons ?_
          refine E.bin ?_
          refine E.var 4 rfl ?_
          refine E.var 6 rfl ?_
          walk_at "o"
          refine A.cons ?_
          refine E.var 6 rfl ?_
          refine A.nil ?_
          walk_at "disp"
          walk_at "app"
          exact W.nil ⟨ms ++ [[(i : Int) - j, (j : Int) - l, (l : Int)]], _, by rw [← mons_snoc]; rfl, rfl, hI.snoc ⟨by rw [g1]; rfl, fun e he => by simp at he; omega⟩⟩
        · rintro o ρ ⟨ms, d, rfl, rfl, hI⟩
          exact ⟨ms, d, rfl, rfl, hI.weak (by omega) (by omega)⟩
      · rintro o ρ ⟨ms, a, b, d, rfl, rfl, hI⟩
        exact ⟨ms, _, a, b, d, rfl, rfl, hI.weak (by omega) (by omega)⟩
    · rintro o ρ ⟨ms, t, a, b, d, rfl, rfl, hI⟩
      exact ⟨ms, t, a, b, d, rfl, rfl, hI.weak (by decide) (by decide)⟩
  rintro o ρ ⟨ms, t, a, b, d, rfl, rfl, hI⟩
  refine W.freeze 0 rfl ?_
  show W _ _ _ _ [.gone] [some (.d (.int n)), some (.d (.int 8)), some (.d (.lst (ms.map mon))), _, _, _, _]
  refine W.cons ?_
  refine W1.ret ?_
  refine E.var 2 rfl ?_
  exact ⟨_, rfl, n, ms, rfl, rfl, hI.ne trivial, by have := hI.len; omega, hI.all⟩
end

abbrev KTake (P : Program) (w : World) (K : PySem.W.Frag) (mg : Str → Option Value) (base : Heap) : Prop := DOk P w K mg base CX0 "_law_take" 1 (spP K PoolI preTake postTake)
abbrev KMon (P : Program) (w : World) (K : PySem.W.Frag) (mg : Str → Option Value) (base : Heap) : Prop := DOk P w K mg base CX0 "_law_monomials" 1 (spF K (fun ds => ∃ n : Int, ds = [.int n, .int 8] ∧ 1 ≤ n ∧ n ≤ 3) postMon)
theorem small_nat {m : Int} (h0 : 0 ≤ m) (h : m ≤ 100000) : m.natAbs < 2 ^ 1000 := Nat.lt_of_le_of_lt (by omega : m.natAbs ≤ 100000) (by decide)
theorem atI_map {α β : Type} {f : α → β} {xs : List α} {i : Int} {x : α} (h : atI xs i = some x) : atI (xs.map f) i = some (f x) := by
  unfold atI at h ⊢
  obtain ⟨j, h1, h2⟩ := Option.bind_eq_some_iff.mp h
  rw [List.length_map, h1]
  show (xs.map f)[j]? = some (f x)
  rw [List.getElem?_map, h2]; rfl
theorem ixN_in {n : Nat} {i : Int} (h0 : 0 ≤ i) (h : i < n) : ixN n i = some i.toNat := by
  unfold ixN
  rw [if_pos h0, if_pos h]
theorem ixI_mem {es : List Int} {i : Int} (h0 : 0 ≤ i) (h : i < es.length) : ixI es i ∈ es := by
  have hn : i.toNat < es.length := by omega
  unfold ixI
  rw [List.getD_eq_getElem?_getD, List.getElem?_eq_getElem hn]
  exact List.getElem_mem hn
theorem at_ex {ms : List (List Int)} {r : Int} (h0 : 0 ≤ r) (h : r < ms.length) : ∃ es', es' ∈ ms ∧ atI (ms.map mon) r = some (mon es') := by
  have hn : r.toNat < ms.length := by omega
  refine ⟨ms[r.toNat], List.getElem_mem hn, atI_map ?_⟩
  unfold atI
  rw [ixN_in h0 h]
  exact List.getElem?_eq_getElem hn
/-- a number is drawn -/
theorem tk1 {own : List Cell} {Q : D → Prop} {m : Int} (hc : own[0]? = some (.any PoolI)) (h1 : 1 ≤ m) (hm : m ≤ 100000) (h : ∀ r : Int, 0 ≤ r → r < m → Q (.int r)) :
    ∃ (n : Nat) (ds : List D), [R.c 0, R.d (.int m)] = .c n :: ds.map R.d ∧ own[n]? = some (.any PoolI) ∧ preTake ds ∧ ∀ d, postTake ds d → Q d := by
  refine ⟨0, [.int m], rfl, hc, ⟨m, rfl, small_nat (by omega) hm⟩, ?_⟩
  rintro _ ⟨m', r, e, rfl, h0, h2, h3⟩
  cases e
  refine h r h0 ?_
  by_cases z : m < 2
  · have := h3 z; omega
  · exact h2 (by omega)
section
variable {P : Program} {w : World} {K : PySem.W.Frag} {mg : Str → Option Value} {base : Heap} {CO : Addr} {f : Addr} {fd : FuncData}
def preRank : List D → Prop := fun ds => ∃ n : Int, ds = [.int n] ∧ 1 ≤ n ∧ n ≤ 3
def postRank : List D → D → Prop := fun ds r => ∃ (n : Int) (rk : List Int), ds = [.int n] ∧ r = ilst rk ∧ RkOk rk ∧ (rk.length : Int) = n
abbrev sRank : Stmt := top 21
theorem scRank : FnScope ["pool", "dimension", "found", "left", "k", "at"] ["pool", "dimension"] (defScope sRank) := ⟨rfl, rfl, rfl, by decide +kernel, rfl, by decide +kernel, by decide +kernel⟩
set_option maxHeartbeats 1000000 in
theorem ok_rank (F : Df K mg "_law_ranking" sRank ["pool", "dimension"] f fd) (B : Bl mg) (GTake : KTake P w K mg base) : FnOk P w K mg base CX0 2 f fd ["pool", "dimension"] (spP K PoolI preRank postRank) := by
  refine ok_P F.fn scRank (fun ds ⟨_, e, _⟩ => by rw [e]; rfl) fun cdv Ar outer sh Hp0 xE Fr ds hr ⟨n, e, h1, h3⟩ => ?_
  have nd := scRank.nd
  subst e
  show W _ _ _ _ _ [some (.c 0), some (.d (.int n)), none, none, none, none]
  refine W.cons ?_
  refine W1.set 2 ?_ nd
  refine E.lstC ?_
  refine A.nil ?_
  walk_at "dispC"
  walk_at "n"
  refine W.cons ?_
  refine W1.set 3 ?_ nd
  refine E.lsR B.list B.range rfl ?_
  skip -- list(range(dimension)) i
  refine E.var 1 rfl ?_
  refine ⟨n, rfl, by omega, by omega, ?_⟩
  rw [rgI_map]
  refine W.cut (fun o ρ => ∃ (rk : List Int) (b c : Option R), o = [.any PoolI, .lst ((rk.map D.int).map R.d)] ∧ ρ = [some (.c 0), some (.d (.int n)), some (.c 1), some (.d (ilst [])), b, c] ∧ rk.Perm (rgI n.toNat)) ?_ ?_
  · refine W1.forR (fun i o ρ => ∃ (rk ls : List Int) (b c : Option R), o = [.any PoolI, .lst ((rk.map D.int).map R.d)] ∧ ρ = [some (.c 0), some (.d (.int n)), some (.c 1), some (.d (ilst ls)), b, c] ∧ (rk ++ ls).Perm (rgI n.toNat) ∧ rk.length = i ∧ i ≤ n.toNat) B.range rfl PassesOwn.never ?_
    refine E.var 1 rfl ?_
    refine ⟨_, rfl, ⟨by omega, by omega⟩, ⟨[], rgI n.toNat, _, _, rfl, rfl, by simp, rfl, by omega⟩, ?_, ?_⟩
    · rintro i o ρ hi ⟨rk, ls, b, c, rfl, rfl, hp, hl, hi'⟩
      have hlen := hp.length_eq
      have hrg : (rgI n.toNat).length = n.toNat := by simp [rgI]
      rw [List.length_append, hrg] at hlen
      have hdl : (ls.map D.int).length = ls.length := List.length_map ..
      refine Tg.name 4 ?_ nd
      refine W.cons ?_
      refine W1.set 5 ?_ nd
      refine E.dcallP GTake (hr.mono (by decide)) ?_
      refine A.cons ?_
      refine E.var 0 rfl ?_
      refine A.cons ?_
      refine E.callB B.len bt_len ?_
      refine A.cons ?_
      refine E.var 3 rfl ?_
      refine A.nil ?_
      walk_at "cl"
      refine A.nil ?_
      refine tk1 rfl (by omega) (by omega) fun r h0 hlt => ?_
      walk_at "n"
      have hlt' : r < ls.length := by omega
      have hat : atI (ls.map D.int) r = some (.int (ixI ls r)) := ixI_at h0 hlt'
      have hsz : ((rk.map D.int).map R.d).length ≤ 10 := by simp; omega
      refine W.cons ?_
      refine W1.expr ?_
      refine E.append ?_
      refine E.var 2 rfl ?_
      refine ⟨_, rfl, ?_, ?_⟩; rotate_left; exact ⟨_, rfl⟩
      refine E.ix ?_
      refine E.var 3 rfl ?_
      refine E.var 5 rfl ?_
      walk_at "ix"
      walk_at "app"
      refine W.cons ?_
      refine W1.set 3 ?_ nd
      refine E.bin ?_
      refine E.slice ?_
      refine E.var 3 rfl ?_
      refine PoE.none ?_
      refine PoE.some ?_
      refine E.var 5 rfl ?_
      refine ⟨_, rfl, ?_⟩
      walk_at "sl"
      refine E.slice ?_
      refine E.var 3 rfl ?_
      refine PoE.some ?_
      refine E.bin ?_
      refine E.var 5 rfl ?_
      refine E.int ?_
      walk_at "o"
      refine ⟨_, rfl, ?_⟩
      refine PoE.none ?_
      walk_at "sl"
      rw [cutD_to h0 (by omega), cutD_from (by omega)]
      refine O2.cat (szle (by simp; omega)) ?_
      walk_at "n"
      rw [← List.map_take, ← List.map_drop, ← List.map_append]
      refine W.nil ⟨rk ++ [ixI ls r], ls.take r.toNat ++ ls.drop (r + 1).toNat, _, _, by rw [← ints_snoc'], rfl, ?_, by simp; omega, by omega⟩
      refine List.Perm.trans ?_ hp
      have e1 : ls = ls.take r.toNat ++ ixI ls r :: ls.drop (r + 1).toNat := by
        have hn : r.toNat < ls.length := by omega
        have : ixI ls r = ls[r.toNat] := by
          unfold ixI
          rw [List.getD_eq_getElem?_getD, List.getElem?_eq_getElem hn]
          rfl
        rw [this, show (r + 1).toNat = r.toNat + 1 by omega]
        exact (List.take_append_drop r.toNat ls).symm.trans (by rw [List.drop_eq_getElem_cons hn])
      rw [List.append_assoc]
      refine List.Perm.append_left rk ?_
      conv => rhs; rw [e1]
      show (ixI ls r :: (ls.take r.toNat ++ ls.drop (r + 1).toNat)).Perm _
      exact List.perm_middle.symm
    · rintro o ρ ⟨rk, ls, b, c, rfl, rfl, hp, hl, hi'⟩
      have hlen := hp.length_eq
      have hrg : (rgI n.toNat).length = n.toNat := by simp [rgI]
      rw [List.length_append, hrg] at hlen
      have : ls = [] := List.length_eq_zero_iff.mp (by omega)
      subst this
      exact ⟨rk, b, c, rfl, rfl, by simpa using hp⟩
  rintro o ρ ⟨rk, b, c, rfl, rfl, hp⟩
  refine W.freeze 1 rfl ?_
  show W _ _ _ _ [.any PoolI, .gone] [some (.c 0), some (.d (.int n)), some (.d (ilst rk)), some (.d (ilst [])), _, _]
  have hlen := hp.length_eq
  have hrg : (rgI n.toNat).length = n.toNat := by simp [rgI]
  rw [hrg] at hlen
  refine W.cons ?_
  refine W1.ret ?_
  refine E.var 2 rfl ?_
  exact ⟨.inl rfl, _, rfl, n, rk, rfl, rfl, ⟨by omega, by omega, by rw [hlen]; exact hp⟩, by omega⟩
def preNear : List D → Prop := fun ds => ∃ es : List Int, ds = [mon es] ∧ 1 ≤ es.length ∧ es.length ≤ 3 ∧ ∀ e ∈ es, 0 ≤ e
def postNear : List D → D → Prop := fun ds r => ∃ es es' : List Int, ds = [mon es] ∧ r = mon es' ∧ es'.length = es.length ∧ ∀ e ∈ es', 0 ≤ e
abbrev sNear : Stmt := top 22
theorem scNear : FnScope ["pool", "before", "places", "moved", "lower", "higher"] ["pool", "before"] (defScope sNear) := ⟨rfl, rfl, rfl, by decide +kernel, rfl, by decide +kernel, by decide +kernel⟩
set_option maxHeartbeats 1000000 in
theorem ok_near (F : Df K mg "_law_near" sNear ["pool", "before"] f fd) (B : Bl mg) (GTake : KTake P w K mg base) (GMon : KMon P w K mg base) : FnOk P w K mg base CX0 2 f fd ["pool", "before"] (spP K PoolI preNear postNear) := by
  refine ok_P F.fn scNear (fun ds ⟨_, e, _⟩ => by rw [e]; rfl) fun cdv Ar outer sh Hp0 xE Fr ds hr ⟨es, e, h1, h3, hpos⟩ => ?_
  have nd := scNear.nd
  subst e
  have hlen : (es.map D.int).length = es.length := List.length_map ..
  show W _ _ _ _ _ [some (.c 0), some (.d (mon es)), none, none, none, none]
  refine W.cons ?_
  refine W1.set 2 ?_ nd
  refine E.dcall GMon (hr.mono (by decide)) ?_
  refine A.cons ?_
  refine E.callB B.len bt_len ?_
  refine A.cons ?_
  refine E.var 1 rfl ?_
  refine A.nil ?_
  walk_at "cl"
  refine A.cons ?_
  refine E.int ?_
  refine A.nil ?_
  refine ⟨[_, _], rfl, ⟨_, rfl, by omega, by omega⟩, ?_⟩
  rintro _ ⟨n, ms, e, rfl, m1, m2, m3⟩
  have en : n = es.length := by
    simp only [List.cons.injEq, D.int.injEq, and_true] at e
    omega
  subst en
  walk_at "n"
  refine W.cons ?_
  refine W1.set 3 ?_ nd
  refine E.callTy B.list bt_list ?_
  refine A.cons ?_
  refine E.var 1 rfl ?_
  refine A.nil ?_
  refine Cl.listCT ?_
  walk_at "n"
  refine W.cons ?_
  refine W1.set 4 ?_ nd
  refine E.dcallP GTake (hr.mono (by decide)) ?_
  refine A.cons ?_
  refine E.var 0 rfl ?_
  refine A.cons ?_
  refine E.callB B.len bt_len ?_
  refine A.cons ?_
  refine E.var 1 rfl ?_
  refine A.nil ?_
  walk_at "cl"
  refine A.nil ?_
  refine tk1 rfl (by omega) (by omega) fun lo l0 l1 => ?_
  walk_at "n"
  refine W.cons ?_
  refine W1.set 5 ?_ nd
  refine E.dcallP GTake (hr.mono (by decide)) ?_
  refine A.cons ?_
  refine E.var 0 rfl ?_
  refine A.cons ?_
  refine E.callB B.len bt_len ?_
  refine A.cons ?_
  refine E.var 1 rfl ?_
  refine A.nil ?_
  walk_at "cl"
  refine A.nil ?_
  refine tk1 rfl (by omega) (by omega) fun hi i0 i1 => ?_
  walk_at "n"
  rw [hlen] at l1 i1
  have aL : atI ((es.map D.int).map R.d) lo = some (.d (.int (ixI es lo))) := atI_map (ixI_at l0 l1)
  refine W.cut (fun o ρ => o = [.any PoolI, .lst ((es.map D.int).map R.d)] ∧ ρ = [some (.c 0), some (.d (mon es)), some (.d (.lst (ms.map mon))), some (.c 1), some (.d (.int lo)), some (.d (.int hi))] ∧ ixI es lo ≠ 0) ?_ ?_
  · skip
    refine W1.iff ?_
    refine Tw.t ?_
    refine Tw.or ?_
    refine T.cmp ?_
    refine E.dcallP GTake (hr.mono (by decide)) ?_
    refine A.cons ?_
    refine E.var 0 rfl ?_
    refine A.cons ?_
    refine E.int ?_
    refine A.nil ?_
    refine tk1 rfl (by decide) (by decide) fun c c0 c1 => ?_
    refine E.int ?_
    walk_at "o"
    refine ⟨_, rfl, ?_⟩
    refine ifd (fun g => ?_) (fun g => ?_)
    · skip
      refine W.cons ?_
      refine W1.ret ?_
      refine E.ix ?_
      refine E.var 2 rfl ?_
      refine E.dcallP GTake (hr.mono (by decide)) ?_
      refine A.cons ?_
      refine E.var 0 rfl ?_
      refine A.cons ?_
      refine E.callB B.len bt_len ?_
      refine A.cons ?_
      refine E.var 2 rfl ?_
      refine A.nil ?_
      walk_at "cl"
      refine A.nil ?_
      have hm := List.length_map (as := ms) mon
      refine tk1 rfl (by have := List.length_pos_iff.mpr m1; omega) (by omega) fun r r0 r1 => ?_
      obtain ⟨es', he, hat⟩ := at_ex (ms := ms) r0 (by omega)
      walk_at "ix"
      exact ⟨.inl rfl, _, rfl, es, es', rfl, rfl, by have := (m3 es' he).1; omega, (m3 es' he).2⟩
    · skip
      refine Tw.or1 ?_
      refine T.cmp ?_
      refine E.ix ?_
      refine E.var 3 rfl ?_
      refine E.var 4 rfl ?_
      walk_at "ix"
      refine E.int ?_
      walk_at "o"
      refine ⟨_, rfl, ?_⟩
      refine ifd (fun g => ?_) (fun g => W.nil ⟨rfl, rfl, g⟩)
      refine W.cons ?_
      refine W1.ret ?_
      refine E.ix ?_
      refine E.var 2 rfl ?_
      refine E.dcallP GTake (hr.mono (by decide)) ?_
      refine A.cons ?_
      refine E.var 0 rfl ?_
      refine A.cons ?_
      refine E.callB B.len bt_len ?_
      refine A.cons ?_
      refine E.var 2 rfl ?_
      refine A.nil ?_
      walk_at "cl"
      refine A.nil ?_
      have hm := List.length_map (as := ms) mon
      refine tk1 rfl (by have := List.length_pos_iff.mpr m1; omega) (by omega) fun r r0 r1 => ?_
      obtain ⟨es', he, hat⟩ := at_ex (ms := ms) r0 (by omega)
      walk_at "ix"
      exact ⟨.inl rfl, _, rfl, es, es', rfl, rfl, by have := (m3 es' he).1; omega, (m3 es' he).2⟩
  rintro o ρ ⟨rfl, rfl, hne⟩
  have hlo := ixI_mem l0 l1
  have hlp := hpos _ hlo
  have hxl : ixN ((es.map D.int).map R.d).length lo = some lo.toNat := ixN_in l0 (by simp; omega)
  refine W.cons ?_
  refine W1.setIx ?_
  refine E.bin ?_
  refine E.ix ?_
  refine E.var 3 rfl ?_
  refine E.var 4 rfl ?_
  walk_at "ix"
  refine E.int ?_
  walk_at "o"
  refine E.var 3 rfl ?_
  refine E.var 4 rfl ?_
  walk_at "six"
  obtain ⟨es2, e2, hl2, hp2⟩ : ∃ es2 : List Int, ((es.map D.int).map R.d).set lo.toNat (R.d (.int (ixI es lo - 1))) = (es2.map D.int).map R.d ∧ es2.length = es.length ∧ ∀ e ∈ es2, 0 ≤ e := ⟨es.set lo.toNat (ixI es lo - 1), by simp [List.map_set], by simp, fun e he => by
    rcases List.mem_or_eq_of_mem_set he with z | z
    · exact hpos e z
    · rw [z]; omega⟩
  rw [e2]
  have hxi : ixN ((es2.map D.int).map R.d).length hi = some hi.toNat := ixN_in i0 (by simp; omega)
  have aH : atI ((es2.map D.int).map R.d) hi = some (.d (.int (ixI es2 hi))) := atI_map (ixI_at i0 (by omega))
  refine W.cons ?_
  refine W1.setIx ?_
  refine E.bin ?_
  refine E.ix ?_
  refine E.var 3 rfl ?_
  refine E.var 5 rfl ?_
  walk_at "ix"
  refine E.int ?_
  walk_at "o"
  refine E.var 3 rfl ?_
  refine E.var 5 rfl ?_
  walk_at "six"
  obtain ⟨es3, e3, hl3, hp3⟩ : ∃ es3 : List Int, ((es2.map D.int).map R.d).set hi.toNat (R.d (.int (ixI es2 hi + 1))) = (es3.map D.int).map R.d ∧ es3.length = es2.length ∧ ∀ e ∈ es3, 0 ≤ e := ⟨es2.set hi.toNat (ixI es2 hi + 1), by simp [List.map_set], by simp, fun e he => by
    rcases List.mem_or_eq_of_mem_set he with z | z
    · exact hp2 e z
    · have := hp2 _ (ixI_mem i0 (by omega)); rw [z]; omega⟩
  rw [e3]
  refine W.freeze 1 rfl ?_
  show W _ _ _ _ [.any PoolI, .gone] [some (.c 0), some (.d (mon es)), some (.d (.lst (ms.map mon))), some (.d (ilst es3)), some (.d (.int lo)), some (.d (.int hi))]
  refine W.cons ?_
  refine W1.ret ?_
  refine E.callTy B.tuple bt_tuple ?_
  refine A.cons ?_
  refine E.var 3 rfl ?_
  refine A.nil ?_
  walk_at "cl"
  exact ⟨.inl rfl, _, rfl, es, es3, rfl, rfl, by omega, hp3⟩
end

section
variable {P : Program} {w : World} {K : PySem.W.Frag} {mg : Str → Option Value} {base : Heap} {CO : Addr} {f : Addr} {fd : FuncData}
def preNil : List D → Prop := fun ds => ds = []
def postWord : List D → D → Prop := fun _ r => ∃ s, r = .str s ∧ SOk 50 s
theorem sok_deg : SOk 9 kDeg := by unfold SOk kDeg; decide +kernel
theorem sok_var : SOk 9 kVar := by unfold SOk kVar; decide +kernel
theorem word_at {r : Int} (h0 : 0 ≤ r) (h : r < 2) : ∃ s, SOk 9 s ∧ KdOk s ∧ atI [D.str kDeg, D.str kVar] r = some (.str s) := by
  by_cases z : r = 0
  · subst z; exact ⟨kDeg, sok_deg, .inl rfl, at0⟩
  · have : r = 1 := by omega
    subst this; exact ⟨kVar, sok_var, .inr rfl, at1⟩
abbrev sWord : Stmt := top 23
theorem scWord : FnScope ["pool", "word", "letters", "way", "at", "letter"] ["pool"] (defScope sWord) := ⟨rfl, rfl, rfl, by decide +kernel, rfl, by decide +kernel, by decide +kernel⟩
set_option maxHeartbeats 1000000 in
theorem ok_word (F : Df K mg "_law_word" sWord ["pool"] f fd) (B : Bl mg) (GTake : KTake P w K mg base) : FnOk P w K mg base CX0 2 f fd ["pool"] (spP K PoolI preNil postWord) := by
  refine ok_P F.fn scWord (fun ds e => by rw [e]; rfl) fun cdv Ar outer sh Hp0 xE Fr ds hr e => ?_
  have nd := scWord.nd
  subst e
  show W _ _ _ _ _ [some (.c 0), none, none, none, none, none]
  refine W.cons ?_
  refine W1.set 1 ?_ nd
  refine E.ix ?_
  refine E.lst ?_
  refine A.cons ?_
  refine E.str ?_
  refine A.cons ?_
  refine E.str ?_
  refine A.nil ?_
  walk_at "disp"
  refine E.dcallP GTake (hr.mono (by decide)) ?_
  refine A.cons ?_
  refine E.var 0 rfl ?_
  refine A.cons ?_
  refine E.int ?_
  refine A.nil ?_
  refine tk1 rfl (by decide) (by decide) fun r r0 r1 => ?_
  obtain ⟨s, hs, _, hat⟩ := word_at r0 r1
  refine Ix.lst hat ?_
  refine W.cons ?_
  refine W1.set 2 ?_ nd
  refine E.str ?_
  walk_at "n"
  obtain ⟨L, eL, hL, lL⟩ : ∃ L : Str, L = ("abcdefghijklmnopqrstuvwxyz D" : Str) ∧ SOk 28 L ∧ L.length = 28 := ⟨_, rfl, by unfold SOk; decide +kernel, by decide +kernel⟩
  rw [← eL]
  clear eL hat r0 r1
  have hsl := hs.1
  refine W.cons ?_
  refine W1.set 3 ?_ nd
  refine E.dcallP GTake (hr.mono (by decide)) ?_
  refine A.cons ?_
  refine E.var 0 rfl ?_
  refine A.cons ?_
  refine E.int ?_
  refine A.nil ?_
  refine tk1 rfl (by decide) (by decide) fun y y0 y1 => ?_
  walk_at "n"
  refine W.cons ?_
  refine W1.set 4 ?_ nd
  refine E.dcallP GTake (hr.mono (by decide)) ?_
  refine A.cons ?_
  refine E.var 0 rfl ?_
  refine A.cons ?_
  refine E.bin ?_
  refine E.callB B.len bt_len ?_
  refine A.cons ?_
  refine E.var 1 rfl ?_
  refine A.nil ?_
  walk_at "cl"
  refine E.int ?_
  walk_at "o"
  refine A.nil ?_
  refine tk1 rfl (by omega) (by omega) fun a a0 a1 => ?_
  walk_at "n"
  refine W.cons ?_
  refine W1.set 5 ?_ nd
  refine E.ix ?_
  refine E.var 2 rfl ?_
  refine E.dcallP GTake (hr.mono (by decide)) ?_
  refine A.cons ?_
  refine E.var 0 rfl ?_
  refine A.cons ?_
  refine E.int ?_
  refine A.nil ?_
  refine tk1 rfl (by decide) (by decide) fun b b0 b1 => ?_
  obtain ⟨c, hc⟩ : ∃ c, atI L.cps.toList b = some c := by
    have hz : L.cps.toList.length = 28 := by rw [Array.length_toList]; exact lL
    unfold atI
    rw [ixN_in b0 (by omega)]
    exact ⟨_, List.getElem?_eq_getElem (by omega)⟩
  have ho := hL.one hc
  walk_at "ix"
  walk_at "n"
  have hol := ho.1
  generalize (⟨#[c]⟩ : Str) = ch at ho hol ⊢
  refine W.cut (fun o ρ => ∃ s, SOk 20 s ∧ o = [.any PoolI] ∧ ρ = [some (.c 0), some (.d (.str s)), some (.d (.str L)), some (.d (.int y)), some (.d (.int a)), some (.d (.str ch))]) ?_ ?_
  · skip
    refine W1.iff ?_
    refine T.cmp ?_
    refine E.var 3 rfl ?_
    refine E.int ?_
    walk_at "o"
    refine ⟨_, rfl, ?_⟩
    refine ifd (fun g => ?_) (fun g => W.nil ⟨s, hs.mono (by decide), rfl, rfl⟩)
    have c1 := hs.cut none (some a)
    have c2 := hs.cut (some (a + 1)) none
    have c3 := c1.app ho
    refine W.cons ?_
    refine W1.set 1 ?_ nd
    refine E.bin ?_
    refine E.bin ?_
    refine E.slice ?_
    refine E.var 1 rfl ?_
    refine PoE.none ?_
    refine PoE.some ?_
    refine E.var 4 rfl ?_
    refine ⟨_, rfl, ?_⟩
    walk_at "sl"
    refine E.var 5 rfl ?_
    refine O2.catS (szle (by have := c1.1; omega)) ?_
    refine E.slice ?_
    refine E.var 1 rfl ?_
    refine PoE.some ?_
    refine E.bin ?_
    refine E.var 4 rfl ?_
    refine E.int ?_
    walk_at "o"
    refine ⟨_, rfl, ?_⟩
    refine PoE.none ?_
    walk_at "sl"
    refine O2.catS (szle (by have := c3.1; have := c2.1; omega)) ?_
    exact W.nil ⟨_, (c3.app c2).mono (by decide), rfl, rfl⟩
  rintro o ρ ⟨s, hs, rfl, rfl⟩
  have hsl := hs.1
  refine W.cut (fun o ρ => ∃ s, SOk 50 s ∧ o = [.any PoolI] ∧ ρ = [some (.c 0), some (.d (.str s)), some (.d (.str L)), some (.d (.int y)), some (.d (.int a)), some (.d (.str ch))]) ?_ ?_
  · skip
    refine W1.iff ?_
    refine T.cmp ?_
    refine E.var 3 rfl ?_
    refine E.int ?_
    walk_at "o"
    refine ⟨_, rfl, ?_⟩
    refine ifd (fun g => ?_) (fun g => W.nil ⟨s, hs.mono (by decide), rfl, rfl⟩)
    have c1 := hs.cut none (some a)
    have c2 := hs.cut (some a) none
    have c3 := c1.app ho
    refine W.cons ?_
    refine W1.set 1 ?_ nd
    refine E.bin ?_
    refine E.bin ?_
    refine E.slice ?_
    refine E.var 1 rfl ?_
    refine PoE.none ?_
    refine PoE.some ?_
    refine E.var 4 rfl ?_
    refine ⟨_, rfl, ?_⟩
    walk_at "sl"
    refine E.var 5 rfl ?_
    refine O2.catS (szle (by have := c1.1; omega)) ?_
    refine E.slice ?_
    refine E.var 1 rfl ?_
    refine PoE.some ?_
    refine E.var 4 rfl ?_
    refine ⟨_, rfl, ?_⟩
    refine PoE.none ?_
    walk_at "sl"
    refine O2.catS (szle (by have := c3.1; have := c2.1; omega)) ?_
    exact W.nil ⟨_, (c3.app c2).mono (by decide), rfl, rfl⟩
  rintro o ρ ⟨s, hs, rfl, rfl⟩
  have hsl := hs.1
  refine W.cut (fun o ρ => ∃ s, SOk 50 s ∧ o = [.any PoolI] ∧ ρ = [some (.c 0), some (.d (.str s)), some (.d (.str L)), some (.d (.int y)), some (.d (.int a)), some (.d (.str ch))]) ?_ ?_
  · skip
    refine W1.iff ?_
    refine T.cmp ?_
    refine E.var 3 rfl ?_
    refine E.int ?_
    walk_at "o"
    refine ⟨_, rfl, ?_⟩
    refine ifd (fun g => ?_) (fun g => W.nil ⟨s, hs, rfl, rfl⟩)
    refine W.cons ?_
    refine W1.set 1 ?_ nd
    refine E.slice ?_
    refine E.var 1 rfl ?_
    refine PoE.none ?_
    refine PoE.some ?_
    refine E.var 4 rfl ?_
    refine ⟨_, rfl, ?_⟩
    walk_at "sl"
    walk_at "n"
    exact W.nil ⟨_, hs.cut _ _, rfl, rfl⟩
  rintro o ρ ⟨s, hs, rfl, rfl⟩
  refine W.cons ?_
  refine W1.ret ?_
  refine E.var 1 rfl ?_
  exact ⟨.inl rfl, _, rfl, s, rfl, hs⟩
end

theorem bt_ValueError : bootBuiltins "ValueError" = some (.type "ValueError") := by decide +kernel
local macro_rules | `(tactic| walk_at "isx") => `(tactic| first | refine Cl.isiExc (by assumption) (by assumption) (by assumption) (fun _ _ => relv_ref) (by assumption) ?_ | refine Cl.isiExc (by assumption) (by assumption) (by assumption) (fun _ _ => relv_ty) (by assumption) ?_)
/-- the errors: BadOrder Z, WrongDimension Y, their base S, BadText TX, BadIndex IX, WrongCount NX -/
structure ErO (K : PySem.W.Frag) (mg : Str → Option Value) (Z Y S TX IX NX : Addr) : Prop where
  mgB : mg "BadOrder" = some (.ref Z)
  mgW : mg "WrongDimension" = some (.ref Y)
  mgS : mg "SpotError" = some (.ref S)
  mgT : mg "BadText" = some (.ref TX)
  mgI : mg "BadIndex" = some (.ref IX)
  mgC : mg "WrongCount" = some (.ref NX)
  mgV : mg "ValueError" = none
  xB : ExcC K Z
  xW : ExcC K Y
  mBB : PySem.W.exmOne K (.ref Z) (.ref Z) = some true
  mWW : PySem.W.exmOne K (.ref Y) (.ref Y) = some true
  kBS : PySem.W.kitOne K (.ref Z) (.ref S) = some true
  kBV : PySem.W.kitOne K (.ref Z) (.type "ValueError") = some true
  kBT : PySem.W.kitOne K (.ref Z) (.ref TX) = some false
  kBW : PySem.W.kitOne K (.ref Z) (.ref Y) = some false
  kBI : PySem.W.kitOne K (.ref Z) (.ref IX) = some false
  kWS : PySem.W.kitOne K (.ref Y) (.ref S) = some true
  kWB : PySem.W.kitOne K (.ref Y) (.ref Z) = some false
  kWC : PySem.W.kitOne K (.ref Y) (.ref NX) = some false
section
variable {P : Program} {w : World} {K : PySem.W.Frag} {mg : Str → Option Value} {base : Heap} {CO Z Y S TX IX NX : Addr} {f : Addr} {fd : FuncData}
abbrev KEar (P : Program) (w : World) (K : PySem.W.Frag) (mg : Str → Option Value) (base : Heap) : Prop := DOk P w K mg base CX0 "_law_earlier" 1 (spF K preEar postEar)
theorem ear_inj {k k' : Str} {rk rk' a a' b b' : List Int} (h : [D.str k, ilst rk, mon a, mon b] = [.str k', ilst rk', mon a', mon b']) : k' = k ∧ rk' = rk ∧ a' = a ∧ b' = b := by
  simp only [List.cons.injEq, D.str.injEq, D.lst.injEq, D.tup.injEq, and_true] at h
  exact ⟨h.1.symm, (ints_inj h.2.1).symm, (ints_inj h.2.2.1).symm, (ints_inj h.2.2.2).symm⟩
def insM (k : Str) (rk : List Int) (fs : List (List Int)) (p : List Int) : List (List Int) := fs.take (fs.filter fun o => earI k rk o p).length ++ [p] ++ fs.drop (fs.filter fun o => earI k rk o p).length
def ascM (k : Str) (rk : List Int) (pls : List (List Int)) : List (List Int) := pls.foldl (insM k rk) []
theorem insM_len (k : Str) (rk : List Int) (fs : List (List Int)) (p : List Int) : (insM k rk fs p).length = fs.length + 1 := by
  unfold insM
  have := List.length_filter_le (fun o => earI k rk o p) fs
  simp
  omega
theorem insM_mem {k : Str} {rk : List Int} {fs : List (List Int)} {p x : List Int} (h : x ∈ insM k rk fs p) : x = p ∨ x ∈ fs := by
  unfold insM at h
  rcases List.mem_append.mp h with h | h
  · rcases List.mem_append.mp h with h | h
    · exact .inr (List.mem_of_mem_take h)
    · exact .inl (List.mem_singleton.mp h)
  · exact .inr (List.mem_of_mem_drop h)
def preAsc (k : Str) (rk : List Int) (pls : List (List Int)) : List D → Prop := fun ds => ds = [.str k, ilst rk, .lst (pls.map mon)]
abbrev sAsc : Stmt := top 25
theorem scAsc : FnScope ["kind", "ranking", "places", "found", "place", "at", "other"] ["kind", "ranking", "places"] (defScope sAsc) := ⟨rfl, rfl, rfl, by decide +kernel, rfl, by decide +kernel, by decide +kernel⟩
theorem ok_asc {k : Str} {rk : List Int} {pls : List (List Int)} (hrk : RkOk rk) (hp : ∀ es ∈ pls, es.length = rk.length) (hz : pls.length ≤ 100) (F : Df K mg "_law_ascending" sAsc ["kind", "ranking", "places"] f fd) (B : Bl mg) (GEar : KEar P w K mg base) :
    FnOk P w K mg base CX0 2 f fd ["kind", "ranking", "places"] (spF K (preAsc k rk pls) fun _ r => r = .lst ((ascM k rk pls).map mon)) := by
  refine ok_F F.fn scAsc (fun ds e => by rw [e]; rfl) fun cdv Ar outer sh Hp0 xE Fr ds hr hm e => ?_
  have nd := scAsc.nd
  subst e
  show W _ _ _ _ _ [some (.d (.str k)), some (.d (ilst rk)), some (.d (.lst (pls.map mon))), none, none, none, none]
  refine W.cons ?_
  refine W1.set 3 ?_ nd
  refine E.lst ?_
  refine A.nil ?_
  walk_at "disp"
  walk_at "n"
  refine W.cut (fun o ρ => ∃ a b c, o = [] ∧ ρ = [some (.d (.str k)), some (.d (ilst rk)), some (.d (.lst (pls.map mon))), some (.d (.lst ((ascM k rk pls).map mon))), a, b, c]) ?_ ?_
  · refine W1.forL (fun i o ρ => ∃ a b c, o = [] ∧ ρ = [some (.d (.str k)), some (.d (ilst rk)), some (.d (.lst (pls.map mon))), some (.d (.lst ((ascM k rk (pls.take i)).map mon))), a, b, c] ∧ (ascM k rk (pls.take i)).length ≤ i ∧ ∀ es ∈ ascM k rk (pls.take i), es.length = rk.length) rfl PassesOwn.never ?_
    refine E.var 2 rfl ?_
    refine ⟨_, .inl rfl, ⟨_, _, _, rfl, rfl, Nat.le_refl _, fun es h => by cases h⟩, ?_, ?_⟩
    · rintro i d o ρ hd ⟨a, b, c, rfl, rfl, hl, hall⟩
      rw [List.getElem?_map, Option.map_eq_some_iff] at hd
      obtain ⟨es, he, rfl⟩ := hd
      have hi : i < pls.length := (List.getElem?_eq_some_iff.mp he).1
      have hes := hp es (List.mem_of_getElem? he)
      have est : ascM k rk (pls.take (i + 1)) = insM k rk (ascM k rk (pls.take i)) es := by
        unfold ascM
        rw [List.take_add_one, he]
        simp
      generalize ascM k rk (pls.take i) = fs at hl hall est ⊢
      refine Tg.name 4 ?_ nd
      refine W.cons ?_
      refine W1.set 5 ?_ nd
      refine E.callB B.len bt_len ?_
      refine A.cons ?_
      refine E.lcF 6 (fun d => earI k rk (esOf d) es) (fun d => d) (fs.map mon) rfl nd (blkOk_by (by kernel_rfl)) ?_
      skip -- [other for other in found if _law_earlier(kind, ranking, other, place)] i
      refine E.var 3 rfl ?_
      refine ⟨rfl, by simp; omega, fun d hd s H0 C cl fp F' le => ?_, fun d hd _ s H0 C cl fp F' le => ?_, ?_⟩
      · obtain ⟨o, ho, rfl⟩ := List.mem_map.mp hd
        have hol := hall o ho
        show T _ _ _ _ _ [some (.d (.str k)), some (.d (ilst rk)), some (.d (.lst (pls.map mon))), some (.d (.lst (fs.map mon))), some (.d (mon es)), b, some (.d (mon o))]
        skip -- [other for other in found if _law_earlier(kind, ranking, other, place)] t
        refine T.truth ?_
        refine E.dcall GEar (hr.mono (by decide)) ?_
        refine A.cons ?_
        refine E.var 0 rfl ?_
        refine A.cons ?_
        refine E.var 1 rfl ?_
        refine A.cons ?_
        refine E.var 6 rfl ?_
        refine A.cons ?_
        refine E.var 4 rfl ?_
        refine A.nil ?_
        refine ⟨[_, _, _, _], rfl, ⟨k, rk, o, es, rfl, hrk.2.1, hrk.ix hol, by omega⟩, ?_⟩
        rintro _ ⟨k', rk', o', es', e, rfl⟩
        obtain ⟨rfl, rfl, rfl, rfl⟩ := ear_inj e
        skip -- [other for other in found if _law_earlier(kind, ranking, other, place)] t
        walk_at "tr"
        exact ⟨rfl, by rw [esOf_mon]⟩
      · obtain ⟨o, ho, rfl⟩ := List.mem_map.mp hd
        show E _ _ _ _ _ [some (.d (.str k)), some (.d (ilst rk)), some (.d (.lst (pls.map mon))), some (.d (.lst (fs.map mon))), some (.d (mon es)), b, some (.d (mon o))]
        skip -- [other for other in found if _law_earlier(kind, ranking, other, place)] e
        refine E.var 6 rfl ?_
        exact ⟨rfl, rfl⟩
      have efl : (((fs.map mon).filter fun d => earI k rk (esOf d) es).map fun d => d).length = (fs.filter fun o => earI k rk o es).length := by
        rw [List.map_id', List.filter_map, List.length_map]
        congr 2
        funext o
        show earI k rk (esOf (mon o)) es = _
        rw [esOf_mon]
      refine A.nil ?_
      walk_at "cl"
      walk_at "n"
      rw [efl]
      have hle := List.length_filter_le (fun o => earI k rk o es) fs
      have hml : (fs.map mon).length = fs.length := List.length_map ..
      refine W.cons ?_
      refine W1.set 3 ?_ nd
      refine E.bin ?_
      refine E.bin ?_
      refine E.slice ?_
      refine E.var 3 rfl ?_
      refine PoE.none ?_
      refine PoE.some ?_
      refine E.var 5 rfl ?_
      refine ⟨_, rfl, ?_⟩
      walk_at "sl"
      refine E.lst ?_
      refine A.cons ?_
      refine E.var 4 rfl ?_
      refine A.nil ?_
      walk_at "disp"
      rw [cutD_to (by omega) (by omega)]
      refine O2.cat (szle (by simp; omega)) ?_
      refine E.slice ?_
      refine E.var 3 rfl ?_
      refine PoE.some ?_
      refine E.var 5 rfl ?_
      refine ⟨_, rfl, ?_⟩
      refine PoE.none ?_
      walk_at "sl"
      rw [cutD_from (by omega)]
      refine O2.cat (szle (by simp; omega)) ?_
      have em : (fs.map mon).take ((fs.filter fun o => earI k rk o es).length : Int).toNat ++ [mon es] ++ (fs.map mon).drop ((fs.filter fun o => earI k rk o es).length : Int).toNat = (ascM k rk (pls.take (i + 1))).map mon := by
        rw [est]
        unfold insM
        simp [List.map_take, List.map_drop]
      rw [em]
      refine W.nil ⟨_, _, _, rfl, rfl, ?_, ?_⟩
      · rw [est, insM_len]; omega
      · intro x hx
        rw [est] at hx
        rcases insM_mem hx with rfl | h
        · exact hes
        · exact hall x h
    · rintro o ρ ⟨a, b, c, rfl, rfl, hl, hall⟩
      rw [List.length_map, List.take_length]
      exact ⟨_, _, _, rfl, rfl⟩
  rintro o ρ ⟨a, b, c, rfl, rfl⟩
  refine W.cons ?_
  refine W1.ret ?_
  refine E.var 3 rfl ?_
  exact ⟨_, rfl, rfl⟩
end

local macro_rules | `(tactic| walk_at "isx") => `(tactic| first | refine Cl.isiExc (by assumption) (by assumption) (by assumption) (fun _ _ => relv_ref) (by assumption) ?_ | refine Cl.isiExc (by assumption) (by assumption) (by assumption) (fun _ _ => relv_ty) (by assumption) ?_)
section
variable {P : Program} {w : World} {K : PySem.W.Frag} {mg : Str → Option Value} {base : Heap} {CO Z Y S TX IX NX : Addr} {f : Addr} {fd : FuncData}
abbrev KInt (P : Program) (w : World) (K : PySem.W.Frag) (mg : Str → Option Value) (base : Heap) : Prop := DOk P w K mg base CX0 "_law_integer" 1 (spF K (fun ds => ∃ i, ds = [.int i]) fun _ r => r = .bl true)
def preIs (CO : Addr) : List D → Prop := fun ds => ∃ (k : Str) (rk : List Int), ds = [orD CO k rk, .str k, ilst rk] ∧ rk.length ≤ 10
abbrev sIs : Stmt := top 27
theorem scIs : FnScope ["order", "kind", "ranking", "k"] ["order", "kind", "ranking"] (defScope sIs) := ⟨rfl, rfl, rfl, by decide +kernel, rfl, by decide +kernel, by decide +kernel⟩
theorem ok_is (F : Df K mg "_law_is" sIs ["order", "kind", "ranking"] f fd) (B : Bl mg) (tO : OrT K mg CO) (GInt : KInt P w K mg base) (kss : PySem.W.kitOne K (.type "str") (.type "str") = some true) (ktt : PySem.W.kitOne K (.type "tuple") (.type "tuple") = some true) :
    FnOk P w K mg base CX0 2 f fd ["order", "kind", "ranking"] (spF K (preIs CO) fun _ r => r = .bl true) := by
  refine ok_F F.fn scIs (fun ds ⟨_, _, e, _⟩ => by rw [e]; rfl) fun cdv Ar outer sh Hp0 xE Fr ds hr hm ⟨k, rk, e, hz⟩ => ?_
  have nd := scIs.nd
  have hml : (rk.map D.int).length = rk.length := List.length_map ..
  subst e
  show W _ _ _ _ _ [some (.d (orD CO k rk)), some (.d (.str k)), some (.d (ilst rk)), none]
  refine W.cut (fun o ρ => o = [] ∧ ρ = [some (.d (orD CO k rk)), some (.d (.str k)), some (.d (ilst rk)), none]) ?_ ?_
  · skip
    refine W1.iff ?_
    refine Tw.t ?_
    refine Tw.or ?_
    refine T.not ?_
    refine T.truth ?_
    refine E.callB B.isinstance bt_isinstance ?_
    refine A.cons ?_
    refine E.var 0 rfl ?_
    refine A.cons ?_
    refine E.globR tO.mgO ?_
    refine A.nil ?_
    refine Cl.isi (.ins tO.isc) (fun _ _ => clsv_ref) tO.kOO ?_
    walk_at "tr"
    refine iteF ?_
    refine Tw.or ?_
    refine T.not ?_
    refine T.truth ?_
    refine E.callB B.isinstance bt_isinstance ?_
    refine A.cons ?_
    refine E.fld ?_
    refine E.var 0 rfl ?_
    refine ⟨_, _, _, _, rfl, tO.cls, tO.nk, rfl, ?_⟩
    refine A.cons ?_
    refine E.bty B.str bt_str ?_
    refine A.nil ?_
    refine Cl.isi .str (fun _ _ => clsv_ty) kss ?_
    walk_at "tr"
    refine iteF ?_
    refine Tw.or1 ?_
    refine T.cmp ?_
    refine E.fld ?_
    refine E.var 0 rfl ?_
    refine ⟨_, _, _, _, rfl, tO.cls, tO.nk, rfl, ?_⟩
    refine E.var 1 rfl ?_
    walk_at "o"
    refine ⟨_, rfl, ?_⟩
    exact ifn (fun h => absurd rfl h) (fun _ => W.nil ⟨rfl, rfl⟩)
  rintro o ρ ⟨rfl, rfl⟩
  refine W.cut (fun o ρ => o = [] ∧ ρ = [some (.d (orD CO k rk)), some (.d (.str k)), some (.d (ilst rk)), none]) ?_ ?_
  · skip
    refine W1.iff ?_
    refine Tw.t ?_
    refine Tw.or ?_
    refine T.not ?_
    refine T.truth ?_
    refine E.callB B.isinstance bt_isinstance ?_
    refine A.cons ?_
    refine E.fld ?_
    refine E.var 0 rfl ?_
    refine ⟨_, _, _, _, rfl, tO.cls, tO.nr, rfl, ?_⟩
    refine A.cons ?_
    refine E.bty B.tuple bt_tuple ?_
    refine A.nil ?_
    refine Cl.isi .tup (fun _ _ => clsv_ty) ktt ?_
    walk_at "tr"
    refine iteF ?_
    refine Tw.or1 ?_
    refine T.cmp ?_
    refine E.callB B.len bt_len ?_
    refine A.cons ?_
    refine E.fld ?_
    refine E.var 0 rfl ?_
    refine ⟨_, _, _, _, rfl, tO.cls, tO.nr, rfl, ?_⟩
    refine A.nil ?_
    walk_at "cl"
    refine E.callB B.len bt_len ?_
    refine A.cons ?_
    refine E.var 2 rfl ?_
    refine A.nil ?_
    walk_at "cl"
    walk_at "o"
    refine ⟨_, rfl, ?_⟩
    exact ifn (fun h => absurd rfl h) (fun _ => W.nil ⟨rfl, rfl⟩)
  rintro o ρ ⟨rfl, rfl⟩
  refine W.cut (fun o ρ => ∃ z, o = [] ∧ ρ = [some (.d (orD CO k rk)), some (.d (.str k)), some (.d (ilst rk)), z]) ?_ ?_
  · refine W1.forR (fun i o ρ => ∃ z, o = [] ∧ ρ = [some (.d (orD CO k rk)), some (.d (.str k)), some (.d (ilst rk)), z]) B.range rfl PassesOwn.never ?_
    refine E.callB B.len bt_len ?_
    refine A.cons ?_
    refine E.var 2 rfl ?_
    refine A.nil ?_
    walk_at "cl"
    refine ⟨_, rfl, ⟨by omega, by omega⟩, ⟨_, rfl, rfl⟩, ?_, ?_⟩
    · rintro i o ρ hi ⟨z, rfl, rfl⟩
      have hat : atI (rk.map D.int) (i : Int) = some (.int (ixI rk i)) := ixI_at (by omega) (by omega)
      refine Tg.name 3 ?_ nd
      refine W.cons ?_
      refine W1.iff ?_
      refine Tw.t ?_
      refine Tw.or ?_
      refine T.not ?_
      refine T.truth ?_
      refine E.dcall GInt (hr.mono (by decide)) ?_
      refine A.cons ?_
      refine E.ix ?_
      refine E.fld ?_
      refine E.var 0 rfl ?_
      refine ⟨_, _, _, _, rfl, tO.cls, tO.nr, rfl, ?_⟩
      refine E.var 3 rfl ?_
      walk_at "ix"
      refine A.nil ?_
      refine ⟨[_], rfl, ⟨_, rfl⟩, ?_⟩
      rintro _ rfl
      walk_at "tr"
      refine iteF ?_
      refine Tw.or1 ?_
      refine T.cmp ?_
      refine E.ix ?_
      refine E.fld ?_
      refine E.var 0 rfl ?_
      refine ⟨_, _, _, _, rfl, tO.cls, tO.nr, rfl, ?_⟩
      refine E.var 3 rfl ?_
      walk_at "ix"
      refine E.ix ?_
      refine E.var 2 rfl ?_
      refine E.var 3 rfl ?_
      walk_at "ix"
      refine O2.ne ⟨_, rfl, ?_⟩
      exact ifn (fun h => absurd rfl h) (fun _ => W.nil (W.nil ⟨_, rfl, rfl⟩))
    · rintro o ρ ⟨z, rfl, rfl⟩
      exact ⟨z, rfl, rfl⟩
  rintro o ρ ⟨z, rfl, rfl⟩
  refine W.cons ?_
  refine W1.ret ?_
  refine E.and ?_
  refine E.dcall GInt (hr.mono (by decide)) ?_
  refine A.cons ?_
  refine E.fld ?_
  refine E.var 0 rfl ?_
  refine ⟨_, _, _, _, rfl, tO.cls, tO.nd, rfl, ?_⟩
  refine A.nil ?_
  refine ⟨[_], rfl, ⟨_, rfl⟩, ?_⟩
  rintro _ rfl
  refine ⟨_, rfl, ?_⟩
  refine iteT ?_
  refine E.one ?_
  refine E.cmp ?_
  refine E.fld ?_
  refine E.var 0 rfl ?_
  refine ⟨_, _, _, _, rfl, tO.cls, tO.nd, rfl, ?_⟩
  refine E.callB B.len bt_len ?_
  refine A.cons ?_
  refine E.var 2 rfl ?_
  refine A.nil ?_
  walk_at "cl"
  walk_at "o"
  exact ⟨_, rfl, by rw [hml]; simp⟩
end

local macro_rules | `(tactic| walk_at "isx") => `(tactic| first | refine Cl.isiExc (by assumption) (by assumption) (by assumption) (fun _ _ => relv_ref) (by assumption) ?_ | refine Cl.isiExc (by assumption) (by assumption) (by assumption) (fun _ _ => relv_ty) (by assumption) ?_)
section
variable {P : Program} {w : World} {K : PySem.W.Frag} {mg : Str → Option Value} {base : Heap} {CO Z Y S TX IX NX : Addr} {f : Addr} {fd : FuncData}
abbrev sNoO : Stmt := top 28
theorem scNoO : FnScope ["kind", "ranking", "right", "e"] ["kind", "ranking"] (defScope sNoO) := ⟨rfl, rfl, rfl, by decide +kernel, rfl, by decide +kernel, by decide +kernel⟩
theorem ok_noO {k : Str} {rk : List Int} (F : Df K mg "_law_no_order" sNoO ["kind", "ranking"] f fd) (B : Bl mg) (tO : OrT K mg CO) (tX : ErO K mg Z Y S TX IX NX)
    (MOX : IOk P w K mg base (L2.CX P w) CO 1 [] (spIX K CO onames (fun ds => ∃ r, ds = [.str k, r] ∧ LoT r rk) (fun _ _ => False) fun _ c => c = .ref Z)) :
    FnOk P w K mg base CX0 4 f fd ["kind", "ranking"] (spF K (fun ds => ∃ r, ds = [.str k, r] ∧ LoT r rk) fun _ r => r = .bl true) := by
  refine ok_F F.fn scNoO (fun ds ⟨_, e, _⟩ => by rw [e]; rfl) fun cdv Ar outer sh Hp0 xE Fr ds hr hm ⟨r, e, hl⟩ => ?_
  have nd := scNoO.nd
  subst e
  show W _ _ _ _ _ [some (.d (.str k)), some (.d r), none, none]
  refine W.cons ?_
  refine W1.set 2 ?_ nd
  refine E.bl ?_
  walk_at "n"
  refine W.cut (fun o ρ => ∃ u, ρ = [some (.d (.str k)), some (.d r), some (.d (.bl true)), u]) ?_ ?_
  · refine W1.tryAs (n := "e") (i := 3) (c := .ref Z) (fun cls o ρ => cls = .ref Z ∧ ρ = [some (.d (.str k)), some (.d r), some (.d (.bl false)), none]) rfl rfl nd rfl rfl ⟨rfl, by decide, Or.inl tX.mgB⟩ takes0 ?_ ?_
    · intro pn xe F' e1 e2 e3 po tk
      refine W.cons ?_
      refine W1.expr ?_
      refine E.dmakeX tk MOX tO.mgO (hr.mono (by decide)) ?_
      refine A.cons ?_
      refine E.var 0 rfl ?_
      refine A.cons ?_
      refine E.var 1 rfl ?_
      refine A.nil ?_
      refine ⟨[_, _], rfl, ⟨r, rfl, hl⟩, fun fs z => z.elim, ?_⟩
      rintro c rfl
      exact ⟨rfl, rfl⟩
    · rintro ad oe cls pn o ρ hz hf ⟨rfl, rfl⟩
      refine ⟨tX.mBB, ?_⟩
      have x1 := tX.xB
      have x2 := tX.kBS
      have x3 := tX.kBV
      have x4 := tX.kBT
      have x5 := tX.kBW
      have x6 := tX.kBI
      refine W.cons ?_
      refine W1.set 2 ?_ nd
      refine E.and ?_
      refine E.callB B.isinstance bt_isinstance ?_
      refine A.cons ?_
      refine E.var 3 rfl ?_
      refine A.cons ?_
      refine E.globR tX.mgS ?_
      refine A.nil ?_
      walk_at "isx"
      refine ⟨_, rfl, ?_⟩
      refine iteT ?_
      refine E.and ?_
      refine E.callB B.isinstance bt_isinstance ?_
      refine A.cons ?_
      refine E.var 3 rfl ?_
      refine A.cons ?_
      refine E.bty tX.mgV bt_ValueError ?_
      refine A.nil ?_
      walk_at "isx"
      refine ⟨_, rfl, ?_⟩
      refine iteT ?_
      refine E.one ?_
      refine E.not ?_
      refine E.callB B.isinstance bt_isinstance ?_
      refine A.cons ?_
      refine E.var 3 rfl ?_
      refine A.cons ?_
      refine E.globR tX.mgT ?_
      refine A.nil ?_
      walk_at "isx"
      refine ⟨_, rfl, ?_⟩
      walk_at "n"
      refine W.cons ?_
      refine W1.set 2 ?_ nd
      refine E.and ?_
      refine E.var 2 rfl ?_
      refine ⟨_, rfl, ?_⟩
      refine iteT ?_
      refine E.and ?_
      refine E.not ?_
      refine E.callB B.isinstance bt_isinstance ?_
      refine A.cons ?_
      refine E.var 3 rfl ?_
      refine A.cons ?_
      refine E.globR tX.mgW ?_
      refine A.nil ?_
      walk_at "isx"
      refine ⟨_, rfl, ?_⟩
      refine ⟨_, rfl, ?_⟩
      refine iteT ?_
      refine E.one ?_
      refine E.not ?_
      refine E.callB B.isinstance bt_isinstance ?_
      refine A.cons ?_
      refine E.var 3 rfl ?_
      refine A.cons ?_
      refine E.globR tX.mgI ?_
      refine A.nil ?_
      walk_at "isx"
      refine ⟨_, rfl, ?_⟩
      walk_at "n"
      exact W.nil ⟨_, rfl⟩
  rintro o ρ ⟨u, rfl⟩
  refine W.cons ?_
  refine W1.ret ?_
  refine E.var 2 rfl ?_
  exact ⟨_, rfl, rfl⟩
abbrev sNoA : Stmt := top 29
theorem scNoA : FnScope ["order", "places", "right", "e"] ["order", "places"] (defScope sNoA) := ⟨rfl, rfl, rfl, by decide +kernel, rfl, by decide +kernel, by decide +kernel⟩
theorem ok_noA {k : Str} {rk : List Int} {pls : List (List Int)} (F : Df K mg "_law_no_arranging" sNoA ["order", "places"] f fd) (B : Bl mg) (tO : OrT K mg CO) (tX : ErO K mg Z Y S TX IX NX)
    (MArrX : MOk P w K mg base (L2.CX P w) CO "arranged" 2 (spX K (fun ds => ds = [orD CO k rk, .lst (pls.map mon)]) (fun _ _ => False) fun _ c => c = .ref Y)) :
    FnOk P w K mg base CX0 4 f fd ["order", "places"] (spF K (fun ds => ds = [orD CO k rk, .lst (pls.map mon)]) fun _ r => r = .bl true) := by
  refine ok_F F.fn scNoA (fun ds e => by rw [e]; rfl) fun cdv Ar outer sh Hp0 xE Fr ds hr hm e => ?_
  have nd := scNoA.nd
  subst e
  show W _ _ _ _ _ [some (.d (orD CO k rk)), some (.d (.lst (pls.map mon))), none, none]
  refine W.cons ?_
  refine W1.set 2 ?_ nd
  refine E.bl ?_
  walk_at "n"
  refine W.cut (fun o ρ => ∃ u, ρ = [some (.d (orD CO k rk)), some (.d (.lst (pls.map mon))), some (.d (.bl true)), u]) ?_ ?_
  · refine W1.tryAs (n := "e") (i := 3) (c := .ref Y) (fun cls o ρ => cls = .ref Y ∧ ρ = [some (.d (orD CO k rk)), some (.d (.lst (pls.map mon))), some (.d (.bl false)), none]) rfl rfl nd rfl rfl ⟨rfl, by decide, Or.inl tX.mgW⟩ takes0 ?_ ?_
    · intro pn xe F' e1 e2 e3 po tk
      refine W.cons ?_
      refine W1.expr ?_
      refine E.dmethX tk tO.cls MArrX (hr.mono (by decide)) ?_
      refine E.var 0 rfl ?_
      refine ⟨_, _, rfl, rfl, ?_⟩
      refine A.cons ?_
      refine E.var 1 rfl ?_
      refine A.nil ?_
      refine ⟨[_], rfl, rfl, fun d z => z.elim, ?_⟩
      rintro c rfl
      exact ⟨rfl, rfl⟩
    · rintro ad oe cls pn o ρ hz hf ⟨rfl, rfl⟩
      refine ⟨tX.mWW, ?_⟩
      have x1 := tX.xW
      have x2 := tX.kWS
      have x3 := tX.kWB
      have x4 := tX.kWC
      refine W.cons ?_
      refine W1.set 2 ?_ nd
      refine E.and ?_
      refine E.callB B.isinstance bt_isinstance ?_
      refine A.cons ?_
      refine E.var 3 rfl ?_
      refine A.cons ?_
      refine E.globR tX.mgS ?_
      refine A.nil ?_
      walk_at "isx"
      refine ⟨_, rfl, ?_⟩
      refine iteT ?_
      refine E.and ?_
      refine E.not ?_
      refine E.callB B.isinstance bt_isinstance ?_
      refine A.cons ?_
      refine E.var 3 rfl ?_
      refine A.cons ?_
      refine E.globR tX.mgB ?_
      refine A.nil ?_
      walk_at "isx"
      refine ⟨_, rfl, ?_⟩
      refine ⟨_, rfl, ?_⟩
      refine iteT ?_
      refine E.one ?_
      refine E.not ?_
      refine E.callB B.isinstance bt_isinstance ?_
      refine A.cons ?_
      refine E.var 3 rfl ?_
      refine A.cons ?_
      refine E.globR tX.mgC ?_
      refine A.nil ?_
      walk_at "isx"
      refine ⟨_, rfl, ?_⟩
      walk_at "n"
      exact W.nil ⟨_, rfl⟩
  rintro o ρ ⟨u, rfl⟩
  refine W.cons ?_
  refine W1.ret ?_
  refine E.var 2 rfl ?_
  exact ⟨_, rfl, rfl⟩
abbrev sNoP : Stmt := top 30
theorem scNoP : FnScope ["order", "one", "two", "right", "e"] ["order", "one", "two"] (defScope sNoP) := ⟨rfl, rfl, rfl, by decide +kernel, rfl, by decide +kernel, by decide +kernel⟩
theorem ok_noP (F : Df K mg "_law_no_preceding" sNoP ["order", "one", "two"] f fd) (B : Bl mg) (tO : OrT K mg CO) (tX : ErO K mg Z Y S TX IX NX)
    (MPreX : MOk P w K mg base (L2.CX P w) CO "precedes" 2 (spX K (preX CO) (fun _ _ => False) fun _ c => c = .ref Y)) :
    FnOk P w K mg base CX0 4 f fd ["order", "one", "two"] (spF K (preX CO) fun _ r => r = .bl true) := by
  refine ok_F F.fn scNoP (fun ds ⟨_, _, _, _, e, _⟩ => by rw [e]; rfl) fun cdv Ar outer sh Hp0 xE Fr ds hr hm ⟨k, rk, a, b, e, hl⟩ => ?_
  have nd := scNoP.nd
  subst e
  show W _ _ _ _ _ [some (.d (orD CO k rk)), some (.d (mon a)), some (.d (mon b)), none, none]
  refine W.cons ?_
  refine W1.set 3 ?_ nd
  refine E.bl ?_
  walk_at "n"
  refine W.cut (fun o ρ => ∃ u, ρ = [some (.d (orD CO k rk)), some (.d (mon a)), some (.d (mon b)), some (.d (.bl true)), u]) ?_ ?_
  · refine W1.tryAs (n := "e") (i := 4) (c := .ref Y) (fun cls o ρ => cls = .ref Y ∧ ρ = [some (.d (orD CO k rk)), some (.d (mon a)), some (.d (mon b)), some (.d (.bl false)), none]) rfl rfl nd rfl rfl ⟨rfl, by decide, Or.inl tX.mgW⟩ takes0 ?_ ?_
    · intro pn xe F' e1 e2 e3 po tk
      refine W.cons ?_
      refine W1.expr ?_
      refine E.dmethX tk tO.cls MPreX (hr.mono (by decide)) ?_
      refine E.var 0 rfl ?_
      refine ⟨_, _, rfl, rfl, ?_⟩
      refine A.cons ?_
      refine E.var 1 rfl ?_
      refine A.cons ?_
      refine E.var 2 rfl ?_
      refine A.nil ?_
      refine ⟨[_, _], rfl, ⟨k, rk, a, b, rfl, hl⟩, fun d z => z.elim, ?_⟩
      rintro c rfl
      exact ⟨rfl, rfl⟩
    · rintro ad oe cls pn o ρ hz hf ⟨rfl, rfl⟩
      refine ⟨tX.mWW, ?_⟩
      have x1 := tX.xW
      have x2 := tX.kWS
      have x3 := tX.kWB
      have x4 := tX.kWC
      refine W.cons ?_
      refine W1.set 3 ?_ nd
      refine E.and ?_
      refine E.callB B.isinstance bt_isinstance ?_
      refine A.cons ?_
      refine E.var 4 rfl ?_
      refine A.cons ?_
      refine E.globR tX.mgS ?_
      refine A.nil ?_
      walk_at "isx"
      refine ⟨_, rfl, ?_⟩
      refine iteT ?_
      refine E.and ?_
      refine E.not ?_
      refine E.callB B.isinstance bt_isinstance ?_
      refine A.cons ?_
      refine E.var 4 rfl ?_
      refine A.cons ?_
      refine E.globR tX.mgB ?_
      refine A.nil ?_
      walk_at "isx"
      refine ⟨_, rfl, ?_⟩
      refine ⟨_, rfl, ?_⟩
      refine iteT ?_
      refine E.one ?_
      refine E.not ?_
      refine E.callB B.isinstance bt_isinstance ?_
      refine A.cons ?_
      refine E.var 4 rfl ?_
      refine A.cons ?_
      refine E.globR tX.mgC ?_
      refine A.nil ?_
      walk_at "isx"
      refine ⟨_, rfl, ?_⟩
      walk_at "n"
      exact W.nil ⟨_, rfl⟩
  rintro o ρ ⟨u, rfl⟩
  refine W.cons ?_
  refine W1.ret ?_
  refine E.var 3 rfl ?_
  exact ⟨_, rfl, rfl⟩
end

/-- a list without doubles, within a list that is no longer -/
theorem perm_of_sub : ∀ {l m : List Int}, l.Nodup → (∀ x ∈ l, x ∈ m) → m.length ≤ l.length → m.Perm l
  | [], m, _, _, h => by
    have : m = [] := List.length_eq_zero_iff.mp (by simpa using h)
    rw [this]
  | a :: l, m, nd, sub, h => by
    have ha := sub a (List.mem_cons_self ..)
    have p := List.perm_cons_erase ha
    refine p.trans (List.Perm.cons a (perm_of_sub (List.nodup_cons.mp nd).2 (fun x hx => ?_) ?_))
    · have hne : x ≠ a := fun z => (List.nodup_cons.mp nd).1 (z ▸ hx)
      exact (List.mem_erase_of_ne hne).mpr (sub x (List.mem_cons_of_mem _ hx))
    · rw [List.length_erase_of_mem ha]
      simp at h
      omega
theorem rgI_nodup (n : Nat) : (rgI n).Nodup := by
  unfold rgI List.Nodup
  rw [List.pairwise_map]
  exact (List.nodup_range (n := n)).imp fun h z => h (by omega)
theorem rgI_len (n : Nat) : (rgI n).length = n := by simp [rgI]
theorem rkok_iff {rk : List Int} : RkOk rk ↔ (1 ≤ rk.length ∧ rk.length ≤ 3) ∧ ∀ j : Nat, j < rk.length → (j : Int) ∈ rk := by
  constructor
  · rintro ⟨h1, h2, h3⟩
    exact ⟨⟨h1, h2⟩, fun j hj => h3.mem_iff.mpr (List.mem_map.mpr ⟨j, List.mem_range.mpr hj, rfl⟩)⟩
  · rintro ⟨⟨h1, h2⟩, h3⟩
    refine ⟨h1, h2, perm_of_sub (rgI_nodup _) (fun x hx => ?_) (by rw [rgI_len]; exact Nat.le_refl _)⟩
    obtain ⟨j, hj, rfl⟩ := List.mem_map.mp hx
    exact h3 j (List.mem_range.mp hj)
section
variable {P : Program} {w : World} {K : PySem.W.Frag} {mg : Str → Option Value} {base : Heap} {CO Z Y S TX IX NX : Addr} {f : Addr} {fd : FuncData}
abbrev KIs (P : Program) (w : World) (K : PySem.W.Frag) (mg : Str → Option Value) (base : Heap) (CO : Addr) : Prop := DOk P w K mg base CX0 "_law_is" 2 (spF K (preIs CO) fun _ r => r = .bl true)
abbrev KMO (P : Program) (w : World) (K : PySem.W.Frag) (mg : Str → Option Value) (base : Heap) (CO : Addr) : Prop := ∀ (k : Str) (rk : List Int), KdOk k → RkOk rk → IOk P w K mg base CX0 CO 1 [] (spQI K CO onames (preO k rk) (postO k rk))
abbrev KNoO (P : Program) (w : World) (K : PySem.W.Frag) (mg : Str → Option Value) (base : Heap) : Prop := ∀ (k : Str) (rk : List Int), ¬ (KdOk k ∧ RkOk rk) → rk.length ≤ 10 → DOk P w K mg base CX0 "_law_no_order" 4 (spF K (fun ds => ∃ r, ds = [.str k, r] ∧ LoT r rk) fun _ r => r = .bl true)
theorem in_two {s : Str} (h : (PyData.str s).canLay0 = true) : ∃ cs : List LStr, [D.str kDeg, D.str kVar] = cs.map (fun s => D.str s.1) ∧ ((⟨s, h⟩ : LStr) ∈ cs ↔ KdOk s) := by
  refine ⟨[⟨kDeg, sok_deg.lay⟩, ⟨kVar, sok_var.lay⟩], rfl, ?_⟩
  simp only [List.mem_cons, List.not_mem_nil, or_false, Subtype.mk.injEq]
  rfl
abbrev sMade : Stmt := top 31
theorem scMade : FnScope ["word", "told", "good", "k"] ["word", "told"] (defScope sMade) := ⟨rfl, rfl, rfl, by decide +kernel, rfl, by decide +kernel, by decide +kernel⟩
set_option maxHeartbeats 1000000 in
theorem ok_made {s : Str} {rk : List Int} (hs : SOk 50 s) (hz : rk.length ≤ 10) (F : Df K mg "_law_made" sMade ["word", "told"] f fd) (B : Bl mg) (tO : OrT K mg CO) (GIs : KIs P w K mg base CO) (MO : KMO P w K mg base CO) (GNoO : KNoO P w K mg base) :
    FnOk P w K mg base CX0 5 f fd ["word", "told"] (spF K (fun ds => ds = [.str s, ilst rk]) fun _ r => r = .bl true) := by
  refine ok_F F.fn scMade (fun ds e => by rw [e]; rfl) fun cdv Ar outer sh Hp0 xE Fr ds hr hm e => ?_
  have nd := scMade.nd
  have hu := hr.units
  have hu2 : (cx0 P w K mg base ["word", "told", "good", "k"] "_law_made" (defScope sMade) f cdv Ar outer sh Hp0 xE).A.units + 65 < cLine := by
    have := hr.un
    show (Ar.deeper _).units + 65 < cLine
    omega
  have hml : (rk.map D.int).length = rk.length := List.length_map ..
  subst e
  show W _ _ _ _ _ [some (.d (.str s)), some (.d (ilst rk)), none, none]
  refine W.cut (fun o ρ => ∃ g : Bool, o = [] ∧ ρ = [some (.d (.str s)), some (.d (ilst rk)), some (.d (.bl g)), none] ∧ (g = true ↔ KdOk s ∧ (1 ≤ rk.length ∧ rk.length ≤ 3))) ?_ ?_
  · skip
    refine W1.set 2 ?_ nd
    refine E.and ?_
    refine E.cmp ?_
    refine E.var 0 rfl ?_
    refine E.lst ?_
    refine A.cons ?_
    refine E.str ?_
    refine A.cons ?_
    refine E.str ?_
    refine A.nil ?_
    walk_at "disp"
    obtain ⟨cs, ecs, hcs⟩ := in_two hs.lay
    have ecs' : [D.str "degree", D.str "variables"] = cs.map (fun s => D.str s.1) := ecs
    rw [ecs']
    refine O2.inE (f := fun s : LStr => D.str s.1) (a := ⟨s, hs.lay⟩) Enc.str hu2 ⟨_, rfl, ?_⟩
    refine two2 (fun h => ?_) (fun h => ?_)
    · skip
      refine E.one ?_
      refine E.cmp ?_
      refine E.callB B.len bt_len ?_
      refine A.cons ?_
      refine E.var 1 rfl ?_
      refine A.nil ?_
      walk_at "cl"
      refine E.lst ?_
      refine A.cons ?_
      refine E.int ?_
      refine A.cons ?_
      refine E.int ?_
      refine A.cons ?_
      refine E.int ?_
      refine A.nil ?_
      walk_at "disp"
      refine O2.inIL (ns := [1, 2, 3]) hu2 ?_
      refine ⟨_, rfl, rfl, ?_⟩
      rw [decide_eq_true_iff, hml]
      have hk := hcs.mp (by simpa only [decide_eq_true_eq] using h)
      simp only [hk, true_and, List.mem_cons, List.not_mem_nil, or_false]
      omega
    · refine ⟨_, rfl, rfl, ?_⟩
      exact ⟨(fun z => by cases z), fun z => absurd (hcs.mpr z.1) (by simpa only [decide_eq_false_iff_not] using h)⟩
  rintro o ρ ⟨g, rfl, rfl, hg⟩
  refine W.cut (fun o ρ => ∃ (g : Bool) (z : Option R), o = [] ∧ ρ = [some (.d (.str s)), some (.d (ilst rk)), some (.d (.bl g)), z] ∧ (g = true ↔ KdOk s ∧ RkOk rk)) ?_ ?_
  · refine W1.forR (fun i o ρ => ∃ (g : Bool) (z : Option R), o = [] ∧ ρ = [some (.d (.str s)), some (.d (ilst rk)), some (.d (.bl g)), z] ∧ (g = true ↔ KdOk s ∧ (1 ≤ rk.length ∧ rk.length ≤ 3) ∧ ∀ j : Nat, j < i → (j : Int) ∈ rk)) B.range rfl PassesOwn.never ?_
    refine E.callB B.len bt_len ?_
    refine A.cons ?_
    refine E.var 1 rfl ?_
    refine A.nil ?_
    walk_at "cl"
    refine ⟨_, rfl, ⟨by omega, by omega⟩, ⟨g, _, rfl, rfl, by rw [hg]; simp⟩, ?_, ?_⟩
    · rintro i o ρ hi ⟨g, z, rfl, rfl, hg⟩
      refine Tg.name 3 ?_ nd
      refine W.cons ?_
      refine W1.set 2 ?_ nd
      refine E.and ?_
      refine E.var 2 rfl ?_
      refine ⟨_, rfl, ?_⟩
      refine two2 (fun h => ?_) (fun h => ?_)
      · skip
        refine E.one ?_
        refine E.cmp ?_
        refine E.var 3 rfl ?_
        refine E.var 1 rfl ?_
        refine O2.inIL hu2 ?_
        refine W.nil ⟨_, _, rfl, rfl, ?_⟩
        rw [decide_eq_true_iff]
        have hh := hg.mp h
        refine ⟨fun hm => ⟨hh.1, hh.2.1, fun j hj => ?_⟩, fun hm => hm.2.2 i (by omega)⟩
        by_cases e : j = i
        · subst e; exact hm
        · exact hh.2.2 j (by omega)
      · refine W.nil ⟨_, _, rfl, rfl, ?_⟩
        rw [h] at hg
        exact ⟨fun z => (by cases z), fun hm => absurd (hg.mpr ⟨hm.1, hm.2.1, fun j hj => hm.2.2 j (by omega)⟩) (by simp)⟩
    · rintro o ρ ⟨g, z, rfl, rfl, hg⟩
      refine ⟨g, z, rfl, rfl, hg.trans ?_⟩
      rw [rkok_iff, show ((rk.map D.int).length : Int).toNat = rk.length by omega]
  rintro o ρ ⟨g, z, rfl, rfl, hg⟩
  refine W.cons ?_
  refine W1.iff ?_
  refine T.truth ?_
  refine E.var 2 rfl ?_
  walk_at "tr"
  refine two2 (fun h => ?_) (fun h => W.nil ?_)
  · obtain ⟨hk, hrk⟩ := hg.mp h
    refine W.cons ?_
    refine W1.ret ?_
    refine E.and ?_
    refine E.dcall GIs (hr.mono (by decide)) ?_
    refine A.cons ?_
    refine E.dmakeQ (MO _ _ ‹KdOk _› ‹RkOk _›) tO.mgO (hr.mono (by decide)) ?_
    refine A.cons ?_
    refine E.var 0 rfl ?_
    refine A.cons ?_
    refine E.var 1 rfl ?_
    refine A.nil ?_
    refine fun ad => ⟨[], _, .dat (.dat .nil), ⟨_, rfl, .inl rfl⟩, ?_⟩
    rintro fs rfl
    refine A.cons ?_
    refine E.var 0 rfl ?_
    refine A.cons ?_
    refine E.var 1 rfl ?_
    refine A.nil ?_
    refine ⟨[_, _, _], rfl, ⟨s, rk, rfl, hz⟩, ?_⟩
    rintro _ rfl
    refine ⟨_, rfl, ?_⟩
    refine iteT ?_
    refine E.one ?_
    refine E.dcall GIs (hr.mono (by decide)) ?_
    refine A.cons ?_
    refine E.dmakeQ (MO _ _ ‹KdOk _› ‹RkOk _›) tO.mgO (hr.mono (by decide)) ?_
    refine A.cons ?_
    refine E.var 0 rfl ?_
    refine A.cons ?_
    refine E.callTy B.tuple bt_tuple ?_
    refine A.cons ?_
    refine E.var 1 rfl ?_
    refine A.nil ?_
    walk_at "cl"
    refine A.nil ?_
    refine fun ad => ⟨[], _, .dat (.dat .nil), ⟨_, rfl, .inr (.inl rfl)⟩, ?_⟩
    rintro fs rfl
    refine A.cons ?_
    refine E.var 0 rfl ?_
    refine A.cons ?_
    refine E.var 1 rfl ?_
    refine A.nil ?_
    refine ⟨[_, _, _], rfl, ⟨s, rk, rfl, hz⟩, ?_⟩
    rintro _ rfl
    exact ⟨_, rfl, rfl⟩
  · have hn : ¬ (KdOk s ∧ RkOk rk) := fun z => by rw [hg.mpr z] at h; cases h
    have GNoO := GNoO s rk hn hz
    refine W.cons ?_
    refine W1.ret ?_
    refine E.and ?_
    refine E.dcall GNoO (hr.mono (by decide)) ?_
    refine A.cons ?_
    refine E.var 0 rfl ?_
    refine A.cons ?_
    refine E.var 1 rfl ?_
    refine A.nil ?_
    refine ⟨[_, _], rfl, ⟨_, rfl, .inl rfl⟩, ?_⟩
    rintro _ rfl
    refine ⟨_, rfl, ?_⟩
    refine iteT ?_
    refine E.one ?_
    refine E.dcall GNoO (hr.mono (by decide)) ?_
    refine A.cons ?_
    refine E.var 0 rfl ?_
    refine A.cons ?_
    refine E.callTy B.tuple bt_tuple ?_
    refine A.cons ?_
    refine E.var 1 rfl ?_
    refine A.nil ?_
    walk_at "cl"
    refine A.nil ?_
    refine ⟨[_, _], rfl, ⟨_, rfl, .inr rfl⟩, ?_⟩
    rintro _ rfl
    exact ⟨_, rfl, rfl⟩
theorem ok_madeA (F : Df K mg "_law_made" sMade ["word", "told"] f fd) (B : Bl mg) (tO : OrT K mg CO) (GIs : KIs P w K mg base CO) (MO : KMO P w K mg base CO) (GNoO : KNoO P w K mg base) :
    FnOk P w K mg base CX0 5 f fd ["word", "told"] (spF K (fun ds => ∃ i : Str × List Int, (SOk 50 i.1 ∧ i.2.length ≤ 10) ∧ ds = [.str i.1, ilst i.2]) fun _ r => r = .bl true) := fn_anyF fun i h => ok_made h.1 h.2 F B tO GIs MO GNoO
end

section
variable {P : Program} {w : World} {K : PySem.W.Frag} {mg : Str → Option Value} {base : Heap} {CO Z Y S TX IX NX : Addr} {f : Addr} {fd : FuncData}
abbrev KSays (P : Program) (w : World) (K : PySem.W.Frag) (mg : Str → Option Value) (base : Heap) : Prop := DOk P w K mg base CX0 "_law_says" 1 (spF K (fun ds => ∃ a b : Bool, ds = [.bl a, .bl b]) fun ds r => ∃ a b : Bool, ds = [.bl a, .bl b] ∧ r = .bl (a == b))
abbrev KOEq (P : Program) (w : World) (K : PySem.W.Frag) (mg : Str → Option Value) (base : Heap) (CO : Addr) : Prop := MOk P w K mg base CX0 CO "__eq__" 1 (spF K (preEq CO) (postEq CO))
theorem ord_inj {CO : Addr} {k k1 a b : Str} {rk rk1 c d : List Int} (h : [orD CO k rk, orD CO k1 rk1] = [orD CO a c, orD CO b d]) : a = k ∧ b = k1 ∧ c = rk ∧ d = rk1 := by
  simp only [List.cons.injEq, D.ins.injEq, D.str.injEq, D.tup.injEq, and_true, true_and] at h
  exact ⟨h.1.1.symm, h.2.1.symm, (ints_inj h.1.2.1).symm, (ints_inj h.2.2.1).symm⟩
/-- two orders compared, the answer told -/
theorem eq_ord {X : Cx} {F : Fm} {own : List Cell} {Q : QE} {k k1 : Str} {rk rk1 : List Int} (G : MOk X.prog X.w X.K X.mg X.base CX0 CO "__eq__" 1 (spF X.K (preEq CO) (postEq CO))) (hr : Room 1 X.A) (hn : PySem.W.notFirst X.K CO (.ref CO) = true) (h : Q own (.d (.bl (decide (k = k1) && decide (rk = rk1))))) :
    O2 X F (.cmp .Eq) (.d (orD CO k rk)) (.d (orD CO k1 rk1)) Q own := by
  refine O2.dEq G hr hn ⟨k, k1, rk, rk1, rfl⟩ ?_
  rintro _ ⟨a, b, c, d, e, rfl⟩
  obtain ⟨rfl, rfl, rfl, rfl⟩ := ord_inj e
  exact h
theorem rkok_rg {m : Nat} (h1 : 1 ≤ m) (h3 : m ≤ 3) : RkOk (rgI m) := ⟨by rw [rgI_len]; exact h1, by rw [rgI_len]; exact h3, by rw [rgI_len]⟩
theorem RkOk.nodup {rk : List Int} (h : RkOk rk) : rk.Nodup := h.2.2.symm.nodup (rgI_nodup _)
/-- the ranking turned by one -/
theorem turned {rk : List Int} (h : RkOk rk) (h2 : 2 ≤ rk.length) : RkOk (rk.drop 1 ++ rk.take 1) ∧ rk ≠ rk.drop 1 ++ rk.take 1 := by
  have hp : (rk.drop 1 ++ rk.take 1).Perm rk := List.perm_append_comm.trans (by rw [List.take_append_drop])
  refine ⟨⟨by rw [hp.length_eq]; exact h.1, by rw [hp.length_eq]; exact h.2.1, by rw [hp.length_eq]; exact hp.trans h.2.2⟩, ?_⟩
  cases rk with
  | nil => simp at h2
  | cons a t => cases t with
    | nil => simp at h2
    | cons b t =>
      intro e
      have nd := h.nodup
      simp at e
      have := (List.nodup_cons.mp nd).1
      rw [e.1] at this
      simp at this
abbrev sUnl : Stmt := top 33
theorem scUnl : FnScope ["order", "kind", "ranking", "dimension", "other"] ["order", "kind", "ranking"] (defScope sUnl) := ⟨rfl, rfl, rfl, by decide +kernel, rfl, by decide +kernel, by decide +kernel⟩
set_option maxHeartbeats 1000000 in
theorem ok_unl {k : Str} {rk : List Int} (hk : KdOk k) (hrk : RkOk rk) (hnf : PySem.W.notFirst K CO (.ref CO) = true) (F : Df K mg "_law_unlike" sUnl ["order", "kind", "ranking"] f fd) (B : Bl mg) (tO : OrT K mg CO) (GSays : KSays P w K mg base) (MO : KMO P w K mg base CO) (MOEq : KOEq P w K mg base CO) :
    FnOk P w K mg base CX0 4 f fd ["order", "kind", "ranking"] (spF K (fun ds => ds = [orD CO k rk, .str k, ilst rk]) fun _ r => r = .bl true) := by
  refine ok_F F.fn scUnl (fun ds e => by rw [e]; rfl) fun cdv Ar outer sh Hp0 xE Fr ds hr hm e => ?_
  have nd := scUnl.nd
  have hml : (rk.map D.int).length = rk.length := List.length_map ..
  have hl1 := hrk.1
  have hl3 := hrk.2.1
  have hr1 : Room 1 (cx0 P w K mg base ["order", "kind", "ranking", "dimension", "other"] "_law_unlike" (defScope sUnl) f cdv Ar outer sh Hp0 xE).A := hr.mono (by decide)
  subst e
  show W _ _ _ _ _ [some (.d (orD CO k rk)), some (.d (.str k)), some (.d (ilst rk)), none, none]
  refine W.cons ?_
  refine W1.set 3 ?_ nd
  refine E.callB B.len bt_len ?_
  refine A.cons ?_
  refine E.var 2 rfl ?_
  refine A.nil ?_
  walk_at "cl"
  walk_at "n"
  rw [hml]
  refine W.cons ?_
  refine W1.iff ?_
  refine T.not ?_
  refine T.truth ?_
  refine E.dcall GSays (hr.mono (by decide)) ?_
  refine A.cons ?_
  refine E.cmp ?_
  refine E.var 0 rfl ?_
  refine E.dmakeQ (MO _ _ ‹KdOk _› ‹RkOk _›) tO.mgO (hr.mono (by decide)) ?_
  refine A.cons ?_
  refine E.var 1 rfl ?_
  refine A.cons ?_
  refine E.callTy B.tuple bt_tuple ?_
  refine A.cons ?_
  refine E.var 2 rfl ?_
  refine A.nil ?_
  walk_at "cl"
  refine A.nil ?_
  refine fun ad => ⟨[], _, .dat (.dat .nil), ⟨_, rfl, .inr (.inl rfl)⟩, ?_⟩
  rintro fs rfl
  skip
  refine eq_ord MOEq hr1 hnf ?_
  refine A.cons ?_
  refine E.bl ?_
  refine A.nil ?_
  refine ⟨[_, _], rfl, ⟨_, _, rfl⟩, ?_⟩
  rintro _ ⟨a, b, e, rfl⟩
  cases e
  walk_at "tr"
  simp only [decide_true, Bool.and_self, beq_self_eq_true, Bool.not_true]
  refine iteF (W.nil ?_)
  obtain ⟨m, em, hm1⟩ : ∃ m : Nat, (1 + (rk.length : Int) % 3).toNat = m ∧ (1 ≤ m ∧ m ≤ 3 ∧ m ≠ rk.length) := ⟨_, rfl, by omega, by omega, by omega⟩
  have hne : rk ≠ rgI m := fun z => hm1.2.2 (by rw [z, rgI_len])
  have hrm : RkOk (rgI m) := rkok_rg hm1.1 hm1.2.1
  refine W.cons ?_
  refine W1.iff ?_
  refine T.not ?_
  refine T.truth ?_
  refine E.dcall GSays (hr.mono (by decide)) ?_
  refine A.cons ?_
  refine E.cmp ?_
  refine E.var 0 rfl ?_
  refine E.dmakeQ (MO _ _ ‹KdOk _› ‹RkOk _›) tO.mgO (hr.mono (by decide)) ?_
  refine A.cons ?_
  refine E.var 1 rfl ?_
  refine A.cons ?_
  refine E.lsR B.list B.range rfl ?_
  skip -- list(range(1 + int(dimension) % 3)) i
  refine E.bin ?_
  refine E.int ?_
  refine E.bin ?_
  refine E.callTy B.int bt_int ?_
  refine A.cons ?_
  refine E.var 3 rfl ?_
  refine A.nil ?_
  walk_at "cl"
  refine E.int ?_
  walk_at "o"
  walk_at "o"
  refine ⟨_, rfl, by omega, by omega, ?_⟩
  rw [rgI_map, em]
  refine A.nil ?_
  refine fun ad => ⟨[], _, .dat (.dat .nil), ⟨_, rfl, .inl rfl⟩, ?_⟩
  rintro fs rfl
  skip
  refine eq_ord MOEq hr1 hnf ?_
  refine A.cons ?_
  refine E.bl ?_
  refine A.nil ?_
  refine ⟨[_, _], rfl, ⟨_, _, rfl⟩, ?_⟩
  rintro _ ⟨a, b, e, rfl⟩
  cases e
  walk_at "tr"
  simp only [hne, decide_false, Bool.and_false, beq_self_eq_true, Bool.not_true]
  refine iteF (W.nil ?_)
  clear hrm hne em hm1 m
  obtain ⟨k2, hk2, ek, hkk⟩ : ∃ k2 : Str, KdOk k2 ∧ (k2 = if k = kVar then kDeg else kVar) ∧ k ≠ k2 := by
    refine ⟨_, ?_, rfl, ?_⟩
    · by_cases h : k = kVar
      · rw [if_pos h]; exact .inl rfl
      · rw [if_neg h]; exact .inr rfl
    · by_cases h : k = kVar
      · rw [if_pos h, h]; decide +kernel
      · rw [if_neg h]; exact h
  refine W.cons ?_
  refine W1.set 4 ?_ nd
  refine E.str ?_
  walk_at "n"
  refine W.cut (fun o ρ => o = [] ∧ ρ = [some (.d (orD CO k rk)), some (.d (.str k)), some (.d (ilst rk)), some (.d (.int rk.length)), some (.d (.str k2))]) ?_ ?_
  · skip
    refine W1.iff ?_
    refine T.cmp ?_
    refine E.var 1 rfl ?_
    refine E.str ?_
    walk_at "o"
    refine ⟨_, rfl, ?_⟩
    refine ifd (fun h => ?_) (fun h => W.nil ⟨rfl, ?_⟩)
    · skip
      refine W.cons ?_
      refine W1.set 4 ?_ nd
      refine E.str ?_
      walk_at "n"
      have h : k = kVar := h
      rw [if_pos h] at ek
      rw [ek]
      exact W.nil ⟨rfl, rfl⟩
    · have h : ¬ k = kVar := h
      rw [if_neg h] at ek
      rw [ek]
      rfl
  rintro o ρ ⟨rfl, rfl⟩
  refine W.cons ?_
  refine W1.iff ?_
  refine T.not ?_
  refine T.truth ?_
  refine E.dcall GSays (hr.mono (by decide)) ?_
  refine A.cons ?_
  refine E.cmp ?_
  refine E.var 0 rfl ?_
  refine E.dmakeQ (MO _ _ ‹KdOk _› ‹RkOk _›) tO.mgO (hr.mono (by decide)) ?_
  refine A.cons ?_
  refine E.var 4 rfl ?_
  refine A.cons ?_
  refine E.callTy B.list bt_list ?_
  refine A.cons ?_
  refine E.var 2 rfl ?_
  refine A.nil ?_
  walk_at "cl"
  refine A.nil ?_
  refine fun ad => ⟨[], _, .dat (.dat .nil), ⟨_, rfl, .inl rfl⟩, ?_⟩
  rintro fs rfl
  skip
  refine eq_ord MOEq hr1 hnf ?_
  refine A.cons ?_
  refine E.bl ?_
  refine A.nil ?_
  refine ⟨[_, _], rfl, ⟨_, _, rfl⟩, ?_⟩
  rintro _ ⟨a, b, e, rfl⟩
  cases e
  walk_at "tr"
  simp only [hkk, decide_false, Bool.false_and, beq_self_eq_true, Bool.not_true]
  refine iteF (W.nil ?_)
  clear hkk hk2 ek
  refine W.cons ?_
  refine W1.iff ?_
  refine T.cmp ?_
  refine E.var 3 rfl ?_
  refine E.int ?_
  refine O2.eq ⟨_, rfl, ?_⟩
  refine ifd (fun h => ?_) (fun h => W.nil ?_)
  · skip
    refine W.cons ?_
    refine W1.ret ?_
    refine E.bl ?_
    exact ⟨_, rfl, rfl⟩
  obtain ⟨ht, hne⟩ := turned hrk (by omega)
  refine W.cons ?_
  refine W1.ret ?_
  refine E.dcall GSays (hr.mono (by decide)) ?_
  refine A.cons ?_
  refine E.cmp ?_
  refine E.var 0 rfl ?_
  refine E.dmakeQ (MO _ _ ‹KdOk _› ‹RkOk _›) tO.mgO (hr.mono (by decide)) ?_
  refine A.cons ?_
  refine E.var 1 rfl ?_
  refine A.cons ?_
  refine E.bin ?_
  refine E.slice ?_
  refine E.var 2 rfl ?_
  refine PoE.some ?_
  refine E.int ?_
  refine ⟨_, rfl, ?_⟩
  refine PoE.none ?_
  walk_at "sl"
  refine E.slice ?_
  refine E.var 2 rfl ?_
  refine PoE.none ?_
  refine PoE.some ?_
  refine E.int ?_
  refine ⟨_, rfl, ?_⟩
  walk_at "sl"
  rw [cutD_from (by decide), cutD_to (by decide) (by omega)]
  refine O2.cat (szle (by simp; omega)) ?_
  rw [← List.map_take, ← List.map_drop, ← List.map_append]
  refine A.nil ?_
  refine fun ad => ⟨[], _, .dat (.dat .nil), ⟨_, rfl, .inl rfl⟩, ?_⟩
  rintro fs rfl
  skip
  refine eq_ord MOEq hr1 hnf ?_
  refine A.cons ?_
  refine E.bl ?_
  refine A.nil ?_
  refine ⟨[_, _], rfl, ⟨_, _, rfl⟩, ?_⟩
  rintro _ ⟨a, b, e, rfl⟩
  cases e
  refine ⟨_, rfl, ?_⟩
  have hne' : ¬ rk = rk.drop (1 : Int).toNat ++ rk.take (1 : Int).toNat := hne
  rw [decide_eq_false hne, Bool.and_false]
  rfl
end

/-! the plain law: the own arranging is the sorting by the key -/
theorem lex_find : ∀ (rk : List Int) (f g : Int → Int), (rk.map f < rk.map g) ↔ ∃ i, rk.find? (fun i => !decide (f i = g i)) = some i ∧ f i < g i
  | [], f, g => by simp
  | a :: rk, f, g => by
    rw [List.map_cons, List.map_cons, List.cons_lt_cons_iff, lex_find rk f g]
    by_cases h : f a = g a
    · rw [List.find?_cons_of_neg (by simp [h])]
      constructor
      · rintro (z | ⟨_, z⟩)
        · omega
        · exact z
      · exact fun z => .inr ⟨h, z⟩
    · rw [List.find?_cons_of_pos (by simp [h])]
      constructor
      · rintro (z | ⟨z, _⟩)
        · exact ⟨a, rfl, z⟩
        · exact absurd z h
      · rintro ⟨i, e, z⟩
        cases e
        exact .inl z
theorem ear_lt {k : Str} {rk a b : List Int} : earI k rk a b = decide (ordK k rk a < ordK k rk b) := by
  unfold earI ordK
  by_cases hk : k = kDeg
  · by_cases hs : a.sum = b.sum
    · rw [if_neg (by simp [hs]), if_pos hk, if_pos hk]
      have e : (a.sum :: rk.map (fun i => -(ixI a i)) < b.sum :: rk.map fun i => -(ixI b i)) ↔ ∃ i, difI rk a b = some i ∧ ixI b i < ixI a i := by
        rw [List.cons_lt_cons_iff, lex_find]
        have ef : (fun i => !decide (-(ixI a i) = -(ixI b i))) = fun i => !decide (ixI a i = ixI b i) := by
          funext i
          congr 1
          exact decide_eq_decide.mpr (by omega)
        rw [ef]
        constructor
        · rintro (z | ⟨_, i, z1, z2⟩)
          · omega
          · exact ⟨i, z1, by omega⟩
        · rintro ⟨i, z1, z2⟩
          exact .inr ⟨hs, i, z1, by omega⟩
      rw [Bool.eq_iff_iff, decide_eq_true_iff, e]
      cases hd : difI rk a b with
      | none => simp
      | some i => simp [hk]
    · rw [if_pos ⟨hk, hs⟩, if_pos hk, if_pos hk]
      refine decide_eq_decide.mpr ?_
      rw [List.cons_lt_cons_iff]
      constructor
      · exact .inl
      · rintro (z | ⟨z, _⟩)
        · exact z
        · exact absurd z hs
  · rw [if_neg (fun z => hk z.1), if_neg hk, if_neg hk]
    have e : (rk.map (ixI a) < rk.map (ixI b)) ↔ ∃ i, difI rk a b = some i ∧ ixI a i < ixI b i := lex_find rk (ixI a) (ixI b)
    rw [Bool.eq_iff_iff, decide_eq_true_iff, e]
    cases hd : difI rk a b with
    | none => simp
    | some i =>
      have hne : ixI a i ≠ ixI b i := by
        have := List.find?_some hd
        simpa using this
      simp only [hk, decide_false, Option.some.injEq, exists_eq_left']
      by_cases z : ixI b i < ixI a i
      · rw [decide_eq_true z]; simp; omega
      · rw [decide_eq_false z]; simp; omega
theorem ordK_inj {k : Str} {rk a b : List Int} (hrk : RkOk rk) (ha : a.length = rk.length) (hb : b.length = rk.length) (h : ordK k rk a = ordK k rk b) : a = b := by
  have key : ∀ i ∈ rk, ixI a i = ixI b i := by
    intro i hi
    unfold ordK at h
    by_cases hk : k = kDeg
    · rw [if_pos hk, if_pos hk] at h
      have := List.map_inj_left.mp (List.cons.inj h).2 i hi
      omega
    · rw [if_neg hk, if_neg hk] at h
      exact List.map_inj_left.mp h i hi
  refine List.ext_getElem (by omega) fun j h1 h2 => ?_
  have hj : (j : Int) ∈ rk := (rkok_iff.mp hrk).2 j (by omega)
  have := key j hj
  unfold ixI at this
  simpa [List.getD_eq_getElem?_getD, List.getElem?_eq_getElem h1, List.getElem?_eq_getElem h2] using this
section
variable {α : Type} {key : α → List Int}
def insK (key : α → List Int) (fs : List α) (p : α) : List α := fs.take (fs.filter fun o => decide (key o < key p)).length ++ [p] ++ fs.drop (fs.filter fun o => decide (key o < key p)).length
abbrev SrtK (key : α → List Int) (fs : List α) : Prop := fs.Pairwise fun a b => key a ≤ key b
theorem split_at (p : α) : ∀ {fs : List α}, SrtK key fs → (∀ x ∈ fs.take (fs.filter fun o => decide (key o < key p)).length, key x ≤ key p) ∧ ∀ x ∈ fs.drop (fs.filter fun o => decide (key o < key p)).length, key p ≤ key x
  | [], _ => by simp
  | a :: fs, h => by
    obtain ⟨h1, h2⟩ := List.pairwise_cons.mp h
    by_cases z : key a < key p
    · rw [List.filter_cons_of_pos (by simpa using z), List.length_cons, List.take_succ_cons, List.drop_succ_cons]
      obtain ⟨q1, q2⟩ := split_at p h2
      refine ⟨fun x hx => ?_, q2⟩
      rcases List.mem_cons.mp hx with rfl | hx
      · exact List.le_of_lt z
      · exact q1 x hx
    · have hap : key p ≤ key a := List.not_lt.mp z
      have e : (a :: fs).filter (fun o => decide (key o < key p)) = [] := by
        refine List.filter_eq_nil_iff.mpr fun x hx => ?_
        rcases List.mem_cons.mp hx with rfl | hx
        · simpa using z
        · have := List.le_trans hap (h1 x hx)
          simpa using List.not_lt.mpr this
      rw [e]
      refine ⟨by simp, fun x hx => ?_⟩
      rcases List.mem_cons.mp (by simpa using hx) with rfl | hx
      · exact hap
      · exact List.le_trans hap (h1 x hx)
theorem insK_srt {fs : List α} {p : α} (h : SrtK key fs) : SrtK key (insK key fs p) := by
  obtain ⟨q1, q2⟩ := split_at p h
  unfold insK
  have hd := h
  rw [← List.take_append_drop (fs.filter fun o => decide (key o < key p)).length fs] at hd
  obtain ⟨d1, d2, d3⟩ := List.pairwise_append.mp hd
  rw [List.append_assoc]
  refine List.pairwise_append.mpr ⟨d1, List.pairwise_cons.mpr ⟨q2, d2⟩, fun x hx y hy => ?_⟩
  rcases List.mem_cons.mp hy with rfl | hy
  · exact q1 x hx
  · exact d3 x hx y hy
theorem insK_perm {fs : List α} {p : α} : (insK key fs p).Perm (p :: fs) := by
  unfold insK
  rw [List.append_assoc]
  refine List.Perm.trans List.perm_middle ?_
  show (p :: (_ ++ _)).Perm _
  simp
theorem foldK : ∀ {ps acc : List α}, SrtK key acc → SrtK key (ps.foldl (insK key) acc) ∧ (ps.foldl (insK key) acc).Perm (ps ++ acc)
  | [], acc, h => ⟨h, List.Perm.refl _⟩
  | p :: ps, acc, h => by
    obtain ⟨h1, h2⟩ := foldK (ps := ps) (insK_srt (p := p) h)
    refine ⟨h1, h2.trans ?_⟩
    exact (List.Perm.append_left ps insK_perm).trans List.perm_middle
end
theorem asc_sort {k : Str} {rk : List Int} {pls : List (List Int)} (hrk : RkOk rk) (hp : ∀ es ∈ pls, es.length = rk.length) : ascM k rk pls = sortM k rk pls := by
  have e : insM k rk = insK (ordK k rk) := by
    funext fs p
    unfold insM insK
    have : (fun o => earI k rk o p) = fun o => decide (ordK k rk o < ordK k rk p) := funext fun o => ear_lt
    rw [this]
  have h1 := foldK (key := ordK k rk) (ps := pls) (acc := []) .nil
  rw [List.append_nil] at h1
  have h2 : SrtK (ordK k rk) (sortM k rk pls) := by
    have := List.pairwise_mergeSort (le := fun a b => decide (ordK k rk a ≤ ordK k rk b)) (fun a b c x y => decide_eq_true (List.le_trans (of_decide_eq_true x) (of_decide_eq_true y)))
      (fun a b => by rcases List.le_total (ordK k rk a) (ordK k rk b) with z | z <;> simp [z]) pls
    exact this.imp fun z => of_decide_eq_true z
  unfold ascM
  rw [e]
  have p2 : (sortM k rk pls).Perm pls := List.mergeSort_perm ..
  refine List.Perm.eq_of_pairwise (le := fun a b => ordK k rk a ≤ ordK k rk b) (fun a b ha hb x y => ?_) h1.1 h2 (h1.2.trans p2.symm)
  exact ordK_inj hrk (hp a (h1.2.mem_iff.mp ha)) (hp b (p2.mem_iff.mp hb)) (List.le_antisymm x y)

section
variable {P : Program} {w : World} {K : PySem.W.Frag} {mg : Str → Option Value} {base : Heap} {CO T0 Z Y S TX IX NX : Addr} {f : Addr} {fd : FuncData}
abbrev KArr (P : Program) (w : World) (K : PySem.W.Frag) (mg : Str → Option Value) (base : Heap) (CO T0 : Addr) : Prop := ∀ (k : Str) (rk : List Int) (pls : List (List Int)), RkOk rk → (∀ es ∈ pls, es.length = rk.length) → pls.length ≤ 100 →
  MOk P w K mg base CX0 CO "arranged" 5 (spTN K T0 lamQ (preArr CO k rk pls) fun _ qs => qs = (sortM k rk pls).map mon)
abbrev KAsc (P : Program) (w : World) (K : PySem.W.Frag) (mg : Str → Option Value) (base : Heap) : Prop := ∀ (k : Str) (rk : List Int) (pls : List (List Int)), RkOk rk → (∀ es ∈ pls, es.length = rk.length) → pls.length ≤ 100 →
  DOk P w K mg base CX0 "_law_ascending" 2 (spF K (preAsc k rk pls) fun _ r => r = .lst ((ascM k rk pls).map mon))
abbrev sArrs : Stmt := top 32
theorem scArrs : FnScope ["order", "kind", "ranking", "places", "due", "handed", "told", "place", "again"] ["order", "kind", "ranking", "places"] (defScope sArrs) := ⟨rfl, rfl, rfl, by decide +kernel, rfl, by decide +kernel, by decide +kernel⟩
set_option maxHeartbeats 1000000 in
theorem ok_arrs {k : Str} {rk : List Int} {pls : List (List Int)} (hrk : RkOk rk) (hp : ∀ es ∈ pls, es.length = rk.length) (hz : pls.length ≤ 50) (F : Df K mg "_law_arranges" sArrs ["order", "kind", "ranking", "places"] f fd) (B : Bl mg) (tO : OrT K mg CO) (GAsc : KAsc P w K mg base) (MArr : KArr P w K mg base CO T0)
    (kll : PySem.W.kitOne K (.type "list") (.type "list") = some true) (ktt : PySem.W.kitOne K (.type "tuple") (.type "tuple") = some true) :
    FnOk P w K mg base CX0 6 f fd ["order", "kind", "ranking", "places"] (spT K T0 lamQ (fun _ ds => ds = [orD CO k rk, .str k, ilst rk, .lst (pls.map mon)]) fun _ r => r = .bl true) := by
  refine ok_T F.fn scArrs (fun bs ds e => by rw [e]; rfl) fun Ar outer sh Hp0 xE Fr bs ds hr hla hbs e => ?_
  have nd := scArrs.nd
  have hu := hr.units
  have hml : (rk.map D.int).length = rk.length := List.length_map ..
  have hpl : (pls.map mon).length = pls.length := List.length_map ..
  have hsl : (sortM k rk pls).length = pls.length := (List.mergeSort_perm ..).length_eq
  have GAsc := GAsc k rk pls hrk hp (by omega)
  have MArr1 := MArr k rk pls hrk hp (by omega)
  have has := asc_sort (k := k) hrk hp
  subst e
  show W _ _ _ _ [.tab lamQ] [some (.d (orD CO k rk)), some (.d (.str k)), some (.d (ilst rk)), some (.d (.lst (pls.map mon))), none, none, none, none, none]
  refine W.cons ?_
  refine W1.set 4 ?_ nd
  refine E.dcall GAsc (hr.mono (by decide)) ?_
  refine A.cons ?_
  refine E.var 1 rfl ?_
  refine A.cons ?_
  refine E.var 2 rfl ?_
  refine A.cons ?_
  refine E.var 3 rfl ?_
  refine A.nil ?_
  refine ⟨[_, _, _], rfl, rfl, ?_⟩
  rintro _ rfl
  walk_at "n"
  rw [has]
  refine W.cons ?_
  refine W1.set 5 ?_ nd
  refine E.callTy B.list bt_list ?_
  refine A.cons ?_
  refine E.var 3 rfl ?_
  refine A.nil ?_
  refine Cl.listC ?_
  walk_at "n"
  refine W.cons ?_
  refine W1.set 6 ?_ nd
  refine E.dmethTN tO.cls MArr1 hla (hr.mono (by decide)) ?_
  refine E.var 0 rfl ?_
  refine ⟨_, _, rfl, rfl, ?_⟩
  refine A.cons ?_
  refine E.var 5 rfl ?_
  refine A.nil ?_
  refine ⟨rfl, fun ad => ⟨_, _, .cel rfl .nil, ⟨_, rfl, .inr (.inr ⟨_, rfl, by simp⟩)⟩, ?_⟩⟩
  rintro qs rfl
  walk_at "n"
  refine W.cut (fun o ρ => o = [.tab lamQ, .lst ((pls.map mon).map R.d), .lst (((sortM k rk pls).map mon).map R.d)] ∧ ρ = [some (.d (orD CO k rk)), some (.d (.str k)), some (.d (ilst rk)), some (.d (.lst (pls.map mon))), some (.d (.lst ((sortM k rk pls).map mon))), some (.c 1), some (.c 2), none, none]) ?_ ?_
  · skip
    refine W1.iff ?_
    refine Tw.t ?_
    refine Tw.or ?_
    refine T.not ?_
    refine T.truth ?_
    refine E.callB B.isinstance bt_isinstance ?_
    refine A.cons ?_
    refine E.var 6 rfl ?_
    refine A.cons ?_
    refine E.bty B.list bt_list ?_
    refine A.nil ?_
    refine Cl.isiCL rfl (fun _ _ => clsv_ty) kll ?_
    walk_at "tr"
    refine iteF ?_
    refine Tw.or ?_
    refine T.cmp ?_
    refine E.var 6 rfl ?_
    refine E.var 4 rfl ?_
    refine O2.neTC hu rfl ?_
    refine ⟨_, rfl, ?_⟩
    refine ifn (fun h => absurd rfl h) (fun _ => ?_)
    refine Tw.or1 ?_
    refine T.cmp ?_
    refine E.var 5 rfl ?_
    refine E.var 3 rfl ?_
    refine O2.neTC hu rfl ⟨_, rfl, ?_⟩
    exact ifn (fun h => absurd rfl h) (fun _ => W.nil ⟨rfl, rfl⟩)
  rintro o ρ ⟨rfl, rfl⟩
  refine W.cut (fun o ρ => ∃ z, o = [.tab lamQ, .lst ((pls.map mon).map R.d), .lst (((sortM k rk pls).map mon).map R.d)] ∧ ρ = [some (.d (orD CO k rk)), some (.d (.str k)), some (.d (ilst rk)), some (.d (.lst (pls.map mon))), some (.d (.lst ((sortM k rk pls).map mon))), some (.c 1), some (.c 2), z, none]) ?_ ?_
  · refine W1.forC (fun i o ρ => ∃ z, o = [.tab lamQ, .lst ((pls.map mon).map R.d), .lst (((sortM k rk pls).map mon).map R.d)] ∧ ρ = [some (.d (orD CO k rk)), some (.d (.str k)), some (.d (ilst rk)), some (.d (.lst (pls.map mon))), some (.d (.lst ((sortM k rk pls).map mon))), some (.c 1), some (.c 2), z, none]) rfl PassesOwn.never ?_
    refine E.var 6 rfl ?_
    refine ⟨2, _, rfl, rfl, ⟨_, rfl, rfl⟩, ?_, ?_, ?_⟩
    · rintro i o ρ ⟨z, rfl, rfl⟩
      rfl
    · rintro i d o ρ hd ⟨z, rfl, rfl⟩
      obtain ⟨d', hm', rfl⟩ := List.mem_map.mp (List.mem_of_getElem? hd)
      obtain ⟨es, _, rfl⟩ := List.mem_map.mp hm'
      refine Tg.name 7 ?_ nd
      refine W.cons ?_
      refine W1.iff ?_
      refine T.not ?_
      refine T.truth ?_
      refine E.callB B.isinstance bt_isinstance ?_
      refine A.cons ?_
      refine E.var 7 rfl ?_
      refine A.cons ?_
      refine E.bty B.tuple bt_tuple ?_
      refine A.nil ?_
      refine Cl.isi .tup (fun _ _ => clsv_ty) ktt ?_
      walk_at "tr"
      exact iteF (W.nil (W.nil ⟨_, rfl, rfl⟩))
    · rintro o ρ ⟨z, rfl, rfl⟩
      exact ⟨z, rfl, rfl⟩
  rintro o ρ ⟨z, rfl, rfl⟩
  have hz0 : ∀ (x : Int), ([D.int x] : List D).length * ((rk.map D.int).length : Int).toNat ≤ sizeLine := fun x => szle (by have := hrk.2.1; simp; omega)
  refine W.cons ?_
  refine W1.expr ?_
  refine E.append ?_
  refine E.var 6 rfl ?_
  refine ⟨_, rfl, ?_, ?_⟩; rotate_left; exact ⟨_, rfl⟩
  refine E.callTy B.tuple bt_tuple ?_
  refine A.cons ?_
  refine E.bin ?_
  refine E.lst ?_
  refine A.cons ?_
  refine E.int ?_
  refine A.nil ?_
  walk_at "disp"
  refine E.callB B.len bt_len ?_
  refine A.cons ?_
  refine E.var 2 rfl ?_
  refine A.nil ?_
  walk_at "cl"
  refine O2.rep (by have := hrk.2.1; omega) (by have := hrk.2.1; omega) (hz0 0) ?_
  refine A.nil ?_
  walk_at "cl"
  walk_at "app"
  refine W.cons ?_
  refine W1.iff ?_
  refine T.cmp ?_
  refine E.var 5 rfl ?_
  refine E.var 3 rfl ?_
  refine O2.neTC hu rfl ⟨_, rfl, ?_⟩
  refine ifn (fun h => absurd rfl h) (fun _ => W.nil ?_)
  refine W.cons ?_
  refine W1.expr ?_
  refine E.append ?_
  refine E.var 5 rfl ?_
  refine ⟨_, rfl, ?_, ?_⟩; rotate_left; exact ⟨_, rfl⟩
  refine E.callTy B.tuple bt_tuple ?_
  refine A.cons ?_
  refine E.bin ?_
  refine E.lst ?_
  refine A.cons ?_
  refine E.int ?_
  refine A.nil ?_
  walk_at "disp"
  refine E.callB B.len bt_len ?_
  refine A.cons ?_
  refine E.var 2 rfl ?_
  refine A.nil ?_
  walk_at "cl"
  refine O2.rep (by have := hrk.2.1; omega) (by have := hrk.2.1; omega) (hz0 9) ?_
  refine A.nil ?_
  walk_at "cl"
  walk_at "app"
  refine W.cons ?_
  refine W1.set 8 ?_ nd
  refine E.dmethTN tO.cls MArr1 hla (hr.mono (by decide)) ?_
  refine E.var 0 rfl ?_
  refine ⟨_, _, rfl, rfl, ?_⟩
  refine A.cons ?_
  refine E.callTy B.tuple bt_tuple ?_
  refine A.cons ?_
  refine E.var 3 rfl ?_
  refine A.nil ?_
  walk_at "cl"
  refine A.nil ?_
  refine ⟨rfl, fun ad => ⟨_, _, .dat .nil, ⟨_, rfl, .inr (.inl rfl)⟩, ?_⟩⟩
  rintro qs rfl
  walk_at "n"
  have MArr1 := MArr k rk [] hrk (fun es h => by cases h) (by decide)
  refine W.cons ?_
  refine W1.ret ?_
  refine E.and ?_
  refine E.callB B.isinstance bt_isinstance ?_
  refine A.cons ?_
  refine E.var 8 rfl ?_
  refine A.cons ?_
  refine E.bty B.list bt_list ?_
  refine A.nil ?_
  refine Cl.isiCL rfl (fun _ _ => clsv_ty) kll ?_
  refine ⟨_, rfl, ?_⟩
  refine iteT ?_
  refine E.and ?_
  refine E.cmp ?_
  refine E.var 8 rfl ?_
  refine E.var 4 rfl ?_
  refine O2.eqTC hu rfl ?_
  refine ⟨_, rfl, ?_⟩
  rw [decide_eq_true rfl]
  refine iteT ?_
  refine E.one ?_
  refine E.cmp ?_
  refine E.dmethTN tO.cls MArr1 hla (hr.mono (by decide)) ?_
  refine E.var 0 rfl ?_
  refine ⟨_, _, rfl, rfl, ?_⟩
  refine A.cons ?_
  refine E.lst ?_
  refine A.nil ?_
  walk_at "disp"
  refine A.nil ?_
  refine ⟨rfl, fun ad => ⟨_, _, .dat .nil, ⟨_, rfl, .inl rfl⟩, ?_⟩⟩
  rintro qs rfl
  refine E.lst ?_
  refine A.nil ?_
  walk_at "disp"
  rw [show sortM k rk [] = [] by unfold sortM; simp]
  refine O2.eqTC (bs := []) (as := []) hu rfl ?_
  exact ⟨rfl, _, rfl, rfl⟩
end

/-! plain facts of the row by row part of the law -/
theorem map_ixI (a : List Int) : (rgI a.length).map (ixI a) = a := by
  refine List.ext_getElem (by simp [rgI]) fun j h1 h2 => ?_
  simp [rgI, ixI, List.getD_eq_getElem?_getD, List.getElem?_eq_getElem h2]
theorem ordK_std {n : Nat} {a : List Int} (h : a.length = n) : ordK kDeg (rgI n) a = stdK a := by
  subst h
  unfold ordK stdK
  rw [if_pos rfl]
  congr 1
  conv => rhs; rw [← map_ixI a, List.map_map]
  rfl
def addM (n : Nat) (a c : List Int) : List Int := (List.range n).map fun (j : Nat) => ixI a (j : Int) + ixI c (j : Int)
theorem addM_ix {n : Nat} {a c : List Int} {i : Int} (h0 : 0 ≤ i) (h : i < n) : ixI (addM n a c) i = ixI a i + ixI c i := by
  obtain ⟨j, rfl⟩ := Int.eq_ofNat_of_zero_le h0
  have hj : j < n := by omega
  show ((addM n a c).getD ((j : Int)).toNat 0) = _
  rw [Int.toNat_natCast, List.getD_eq_getElem?_getD]
  unfold addM
  rw [List.getElem?_map, List.getElem?_range hj]
  rfl
theorem addM_len {n : Nat} {a c : List Int} : (addM n a c).length = n := by simp [addM]
theorem addM_sum {n : Nat} {a c : List Int} (ha : a.length = n) (hc : c.length = n) : (addM n a c).sum = a.sum + c.sum := by
  have e : ∀ (l : List Nat) (f g : Nat → Int), (l.map fun j => f j + g j).sum = (l.map f).sum + (l.map g).sum := by
    intro l f g
    induction l with
    | nil => rfl
    | cons x l ih => simp only [List.map_cons, List.sum_cons, ih]; omega
  have ea : ∀ (x : List Int), x.length = n → (List.range n).map (fun (j : Nat) => ixI x (j : Int)) = x := by
    intro x hx
    have h0 := map_ixI x
    rw [hx] at h0
    unfold rgI at h0
    rw [List.map_map] at h0
    exact h0
  unfold addM
  rw [e (List.range n) (fun j => ixI a (j : Int)) (fun j => ixI c (j : Int))]
  have h1 := ea a ha
  have h2 := ea c hc
  rw [h1, h2]
theorem find_congr {p q : Int → Bool} : ∀ {l : List Int}, (∀ x ∈ l, p x = q x) → l.find? p = l.find? q
  | [], _ => rfl
  | a :: l, h => by
    have ha := h a (List.mem_cons_self ..)
    have ih := find_congr (l := l) fun x hx => h x (List.mem_cons_of_mem _ hx)
    rw [List.find?_cons, List.find?_cons, ha, ih]
theorem ear_shift {k : Str} {rk a b c : List Int} (hrk : RkOk rk) (ha : a.length = rk.length) (hb : b.length = rk.length) (hc : c.length = rk.length) : earI k rk (addM rk.length a c) (addM rk.length b c) = earI k rk a b := by
  have hi : ∀ i ∈ rk, 0 ≤ i ∧ i < rk.length := fun i h => by have := hrk.ix (es := a) ha i h; omega
  have hd : difI rk (addM rk.length a c) (addM rk.length b c) = difI rk a b := by
    unfold difI
    refine find_congr fun i h => ?_
    rw [addM_ix (hi i h).1 (hi i h).2, addM_ix (hi i h).1 (hi i h).2]
    congr 1
    exact decide_eq_decide.mpr (by omega)
  unfold earI
  rw [addM_sum ha hc, addM_sum hb hc, hd]
  have e1 : (k = kDeg ∧ a.sum + c.sum ≠ b.sum + c.sum) ↔ (k = kDeg ∧ a.sum ≠ b.sum) := by
    constructor <;> exact fun z => ⟨z.1, by have := z.2; omega⟩
  by_cases h : k = kDeg ∧ a.sum ≠ b.sum
  · rw [if_pos (e1.mpr h), if_pos h]
    exact decide_eq_decide.mpr (by omega)
  · rw [if_neg (fun z => h (e1.mp z)), if_neg h]
    cases hf : difI rk a b with
    | none => rfl
    | some i =>
      have hm : i ∈ rk := List.mem_of_find?_eq_some hf
      simp only []
      rw [addM_ix (hi i hm).1 (hi i hm).2, addM_ix (hi i hm).1 (hi i hm).2]
      congr 1
      exact decide_eq_decide.mpr (by omega)
def zeroM (n : Nat) : List Int := List.replicate n 0
theorem zeroM_ix {n : Nat} {i : Int} : ixI (zeroM n) i = 0 := by
  unfold ixI zeroM
  rw [List.getD_eq_getElem?_getD, List.getElem?_replicate]
  split <;> rfl
theorem sum_nonneg : ∀ {a : List Int}, (∀ e ∈ a, 0 ≤ e) → 0 ≤ a.sum
  | [], _ => by simp
  | x :: a, h => by
    have := sum_nonneg (a := a) fun e he => h e (List.mem_cons_of_mem _ he)
    have := h x (List.mem_cons_self ..)
    rw [List.sum_cons]; omega
theorem sum_zero : ∀ {a : List Int}, (∀ e ∈ a, 0 ≤ e) → a.sum = 0 → ∀ e ∈ a, e = 0
  | [], _, _ => by simp
  | x :: a, h, hs => by
    have h1 := sum_nonneg (a := a) fun e he => h e (List.mem_cons_of_mem _ he)
    have h2 := h x (List.mem_cons_self ..)
    rw [List.sum_cons] at hs
    intro e he
    rcases List.mem_cons.mp he with rfl | he
    · omega
    · exact sum_zero (fun e he => h e (List.mem_cons_of_mem _ he)) (by omega) e he
theorem ixI_mem' {a : List Int} {i : Int} (h0 : 0 ≤ i) (h : i < a.length) : ixI a i ∈ a := ixI_mem h0 h
/-- 1 comes before each other monomial -/
theorem unit_first {k : Str} {rk a : List Int} (hrk : RkOk rk) (ha : a.length = rk.length) (hp : ∀ e ∈ a, 0 ≤ e) : decide (ordK k rk (zeroM rk.length) < ordK k rk a) = !decide (a = zeroM rk.length) := by
  have hzl : (zeroM rk.length).length = rk.length := by simp [zeroM]
  have hzs : (zeroM rk.length).sum = 0 := by
    unfold zeroM
    induction rk.length with
    | zero => rfl
    | succ n ih => rw [List.replicate_succ, List.sum_cons, ih]; rfl
  have no : ¬ ordK k rk a < ordK k rk (zeroM rk.length) := by
    unfold ordK
    by_cases hk : k = kDeg
    · rw [if_pos hk, if_pos hk, List.cons_lt_cons_iff, hzs]
      rintro (z | ⟨z, z2⟩)
      · have := sum_nonneg hp; omega
      · obtain ⟨i, f1, f2⟩ := (lex_find _ _ _).mp z2
        have hm := hrk.ix ha i (List.mem_of_find?_eq_some f1)
        have := sum_zero hp z _ (ixI_mem hm.1 hm.2)
        rw [zeroM_ix] at f2
        omega
    · rw [if_neg hk, if_neg hk]
      intro z2
      obtain ⟨i, f1, f2⟩ := (lex_find _ _ _).mp z2
      have hm := hrk.ix ha i (List.mem_of_find?_eq_some f1)
      have := hp _ (ixI_mem hm.1 hm.2)
      rw [zeroM_ix] at f2
      omega
  by_cases e : a = zeroM rk.length
  · rw [decide_eq_true e, e]
    exact decide_eq_false (List.lt_irrefl _)
  · rw [decide_eq_false e]
    refine decide_eq_true ?_
    refine Decidable.byContradiction fun h => e ?_
    exact ordK_inj hrk ha hzl (List.le_antisymm (List.not_lt.mp h) (List.not_lt.mp no))

/-- a number is drawn, the pool any own cell -/
theorem tkn {own : List Cell} {n : Nat} {Q : D → Prop} {m : Int} (hc : own[n]? = some (.any PoolI)) (h1 : 1 ≤ m) (hm : m ≤ 100000) (h : ∀ r : Int, 0 ≤ r → r < m → Q (.int r)) :
    ∃ (n' : Nat) (ds : List D), [R.c n, R.d (.int m)] = .c n' :: ds.map R.d ∧ own[n']? = some (.any PoolI) ∧ preTake ds ∧ ∀ d, postTake ds d → Q d := by
  refine ⟨n, [.int m], rfl, hc, ⟨m, rfl, small_nat (by omega) hm⟩, ?_⟩
  rintro _ ⟨m', r, e, rfl, h0, h2, h3⟩
  cases e
  refine h r h0 ?_
  by_cases z : m < 2
  · have := h3 z; omega
  · exact h2 (by omega)
theorem nearq {own : List Cell} {n : Nat} {Q : D → Prop} {es : List Int} (hc : own[n]? = some (.any PoolI)) (h1 : 1 ≤ es.length) (h3 : es.length ≤ 3) (hp : ∀ e ∈ es, 0 ≤ e) (h : ∀ es' : List Int, es'.length = es.length → (∀ e ∈ es', 0 ≤ e) → Q (mon es')) :
    ∃ (n' : Nat) (ds : List D), [R.c n, R.d (mon es)] = .c n' :: ds.map R.d ∧ own[n']? = some (.any PoolI) ∧ preNear ds ∧ ∀ d, postNear ds d → Q d := by
  refine ⟨n, [mon es], rfl, hc, ⟨es, rfl, h1, h3, hp⟩, ?_⟩
  rintro _ ⟨es0, es', e, rfl, hl, hp'⟩
  obtain rfl := mon_inj e
  exact h es' hl hp'
theorem rep_zero : ∀ n : Nat, (List.replicate n [D.int 0]).flatten = (zeroM n).map D.int
  | 0 => rfl
  | n + 1 => by
    rw [List.replicate_succ, List.flatten_cons, rep_zero n]
    rfl
theorem addM_map {n : Nat} {a c : List Int} : ((List.range n).map fun (j : Nat) => D.int (ixI a (j : Int) + ixI c (j : Int))) = (addM n a c).map D.int := by
  unfold addM
  rw [List.map_map]
  rfl
theorem pre_inj {CO : Addr} {k k' : Str} {rk rk' a a' b b' : List Int} (h : [orD CO k rk, mon a, mon b] = [orD CO k' rk', mon a', mon b']) : k = k' ∧ rk = rk' ∧ a = a' ∧ b = b' := by
  simp only [List.cons.injEq, D.ins.injEq, D.str.injEq, D.tup.injEq, and_true, true_and] at h
  exact ⟨h.1.1, ints_inj h.1.2.1, ints_inj h.2.1, ints_inj h.2.2⟩
theorem ear_inj2 {k k' : Str} {rk rk' a a' b b' : List Int} (h : [D.str k, ilst rk, mon a, mon b] = [.str k', ilst rk', mon a', mon b']) : k = k' ∧ rk = rk' ∧ a = a' ∧ b = b' := by
  obtain ⟨h1, h2, h3, h4⟩ := ear_inj h
  exact ⟨h1.symm, h2.symm, h3.symm, h4.symm⟩
theorem mon2_inj {a a' b b' : List Int} (h : [mon a, mon b] = [mon a', mon b']) : a = a' ∧ b = b' := by
  simp only [List.cons.injEq, D.tup.injEq, and_true] at h
  exact ⟨ints_inj h.1, ints_inj h.2⟩
theorem zeroM_len {n : Nat} : (zeroM n).length = n := by simp [zeroM]
theorem zeroM_pos {n : Nat} : ∀ e ∈ zeroM n, 0 ≤ e := fun e he => by rw [(List.mem_replicate.mp he).2]; decide
section
variable {P : Program} {w : World} {K : PySem.W.Frag} {mg : Str → Option Value} {base : Heap} {CO T0 Z Y S TX IX NX : Addr} {f : Addr} {fd : FuncData}
abbrev KPool (P : Program) (w : World) (K : PySem.W.Frag) (mg : Str → Option Value) (base : Heap) : Prop := DOk P w K mg base CX0 "_law_pool" 1 (spN K preP fun _ => PoolI)
/-- the defs that the law calls -/
structure LawO (P : Program) (w : World) (K : PySem.W.Frag) (mg : Str → Option Value) (base : Heap) (CO T0 Y : Addr) : Prop where
  GPool : KPool P w K mg base
  GTake : KTake P w K mg base
  GRank : DOk P w K mg base CX0 "_law_ranking" 2 (spP K PoolI preRank postRank)
  GNear : DOk P w K mg base CX0 "_law_near" 2 (spP K PoolI preNear postNear)
  GWord : DOk P w K mg base CX0 "_law_word" 2 (spP K PoolI preNil postWord)
  GIs : KIs P w K mg base CO
  GUnl : ∀ (k : Str) (rk : List Int), KdOk k → RkOk rk → DOk P w K mg base CX0 "_law_unlike" 4 (spF K (fun ds => ds = [orD CO k rk, .str k, ilst rk]) fun _ r => r = .bl true)
  GSays : KSays P w K mg base
  GEar : KEar P w K mg base
  GBef : DOk P w K mg base CX0 "comes_before" 2 (spF K (fun ds => ∃ a b : List Int, ds = [mon a, mon b] ∧ 1 ≤ a.length ∧ a.length ≤ 3 ∧ b.length = a.length) fun ds r => ∃ a b : List Int, ds = [mon a, mon b] ∧ r = .bl (decide (stdK a < stdK b)))
  MPre : MOk P w K mg base CX0 CO "precedes" 2 (spF K (prePre CO) (postPre CO))
  MO : KMO P w K mg base CO
  GArr : ∀ (k : Str) (rk : List Int) (pls : List (List Int)), RkOk rk → (∀ es ∈ pls, es.length = rk.length) → pls.length ≤ 50 → DOk P w K mg base CX0 "_law_arranges" 6 (spT K T0 lamQ (fun _ ds => ds = [orD CO k rk, .str k, ilst rk, .lst (pls.map mon)]) fun _ r => r = .bl true)
  GMade : DOk P w K mg base CX0 "_law_made" 5 (spF K (fun ds => ∃ i : Str × List Int, (SOk 50 i.1 ∧ i.2.length ≤ 10) ∧ ds = [.str i.1, ilst i.2]) fun _ r => r = .bl true)
  GNoP : DOk P w K mg base CX0 "_law_no_preceding" 4 (spF K (preX CO) fun _ r => r = .bl true)
  GNoA : ∀ (k : Str) (rk : List Int) (pls : List (List Int)), (∃ es ∈ pls, es.length ≠ rk.length) → DOk P w K mg base CX0 "_law_no_arranging" 4 (spF K (fun ds => ds = [orD CO k rk, .lst (pls.map mon)]) fun _ r => r = .bl true)
abbrev sLaw : Stmt := top 34
theorem scLaw : FnScope ["script", "pool", "dimension", "kind", "ranking", "handed", "order", "unit", "one", "two", "factor", "more", "k", "last", "pair", "standard", "places", "before", "told", "at", "wrong"] ["script"] (defScope sLaw) := ⟨rfl, rfl, rfl, by decide +kernel, rfl, by decide +kernel, by decide +kernel⟩
set_option maxHeartbeats 2000000 in
theorem ok_law (F : Df K mg "law" sLaw ["script"] f fd) (B : Bl mg) (tO : OrT K mg CO) (LH : LawO P w K mg base CO T0 Y) :
    FnOk P w K mg base CX0 8 f fd ["script"] (spT K T0 lamQ (fun _ ds => preP ds) fun _ r => r = .bl true) := by
  obtain ⟨GPool, GTake, GRank, GNear, GWord, GIs, GUnl, GSays, GEar, GBef, MPre, MO, GArr, GMade, GNoP, GNoA⟩ := LH
  refine ok_T F.fn scLaw (fun bs ds ⟨_, e, _⟩ => by rw [e]; rfl) fun Ar outer sh Hp0 xE Fr bs ds hr hla hbs ⟨ns, e, hz⟩ => ?_
  have nd := scLaw.nd
  have hu := hr.units
  have hu2 : (cx0 P w K mg base ["script"] "law" (defScope sLaw) f fd.code Ar outer sh Hp0 xE).A.units + 65 < cLine := by
    have := hr.un
    show (Ar.deeper _).units + 65 < cLine
    omega
  subst e
  show W _ _ _ _ [.tab lamQ] [some (.d (.rol (ns.map D.int))), none, none, none, none, none, none, none, none, none, none, none, none, none, none, none, none, none, none, none, none]
  refine W.cons ?_
  refine W1.set 1 ?_ nd
  refine E.dcallN GPool (hr.mono (by decide)) ?_
  refine A.cons ?_
  refine E.var 0 rfl ?_
  refine A.nil ?_
  refine ⟨[_], rfl, ⟨ns, rfl, hz⟩, ?_⟩
  walk_at "n"
  refine W.cons ?_
  refine W1.set 2 ?_ nd
  refine E.bin ?_
  refine E.int ?_
  refine E.dcallP GTake (hr.mono (by decide)) ?_
  refine A.cons ?_
  refine E.var 1 rfl ?_
  refine A.cons ?_
  refine E.int ?_
  refine A.nil ?_
  refine tkn rfl (by decide) (by decide) fun n0 n1 n2 => ?_
  walk_at "o"
  walk_at "n"
  obtain ⟨n, en⟩ : ∃ n : Nat, 1 + n0 = (n : Int) := ⟨(1 + n0).toNat, by omega⟩
  have hn1 : 1 ≤ n := by omega
  have hn3 : n ≤ 3 := by omega
  rw [en]
  clear en n1 n2 n0
  refine W.cons ?_
  refine W1.set 3 ?_ nd
  refine E.ix ?_
  refine E.lst ?_
  refine A.cons ?_
  refine E.str ?_
  refine A.cons ?_
  refine E.str ?_
  refine A.nil ?_
  walk_at "disp"
  refine E.dcallP GTake (hr.mono (by decide)) ?_
  refine A.cons ?_
  refine E.var 1 rfl ?_
  refine A.cons ?_
  refine E.int ?_
  refine A.nil ?_
  refine tkn rfl (by decide) (by decide) fun r r0 r1 => ?_
  obtain ⟨k, hs, hk, hat⟩ := word_at r0 r1
  refine Ix.lst hat ?_
  clear hat r0 r1 r
  refine W.cons ?_
  refine W1.set 4 ?_ nd
  refine E.dcallP GRank (hr.mono (by decide)) ?_
  refine A.cons ?_
  refine E.var 1 rfl ?_
  refine A.cons ?_
  refine E.var 2 rfl ?_
  refine A.nil ?_
  refine ⟨1, [_], rfl, rfl, ⟨_, rfl, by omega, by omega⟩, ?_⟩
  rintro _ ⟨n', rk, e, rfl, hrk, hrl0⟩
  have hrl : rk.length = n := by
    simp only [List.cons.injEq, D.int.injEq, and_true] at e
    omega
  clear hrl0 e n'
  subst hrl
  walk_at "n"
  refine W.cons ?_
  refine W1.set 5 ?_ nd
  refine E.callTy B.list bt_list ?_
  refine A.cons ?_
  refine E.var 4 rfl ?_
  refine A.nil ?_
  refine Cl.listC ?_
  walk_at "n"
  refine W.cons ?_
  refine W1.set 6 ?_ nd
  refine E.dmakeQ (MO _ _ ‹KdOk _› ‹RkOk _›) tO.mgO (hr.mono (by decide)) ?_
  refine A.cons ?_
  refine E.var 3 rfl ?_
  refine A.cons ?_
  refine E.var 5 rfl ?_
  refine A.nil ?_
  refine fun ad => ⟨_, _, .dat (.cel rfl .nil), ⟨_, rfl, .inr (.inr ⟨_, rfl, by simp⟩)⟩, ?_⟩
  rintro fs rfl
  walk_at "n"
  have hml : (rk.map D.int).length = rk.length := List.length_map ..
  have aL : atI ((rk.map D.int).map R.d) 0 = some (.d (.int (ixI rk 0))) := atI_map (ixI_at (by decide) (by omega))
  have hxl : ixN ((rk.map D.int).map R.d).length 0 = some 0 := ixN_in (i := 0) (by decide) (by simp; omega)
  have hsz : (((rk.map D.int).map R.d).set 0 (R.d (.int (2 - ixI rk 0)))).length < 100000 := by simp; omega
  refine W.cons ?_
  refine W1.setIx ?_
  refine E.bin ?_
  refine E.int ?_
  refine E.ix ?_
  refine E.var 5 rfl ?_
  refine E.int ?_
  walk_at "ix"
  walk_at "o"
  refine E.var 5 rfl ?_
  refine E.int ?_
  walk_at "six"
  generalize hg : ((rk.map D.int).map R.d).set 0 (R.d (.int (2 - ixI rk 0))) = hs0 at hsz ⊢
  refine W.cons ?_
  refine W1.expr ?_
  refine E.append ?_
  refine E.var 5 rfl ?_
  refine ⟨_, rfl, ?_, ?_⟩; rotate_left; exact ⟨_, rfl⟩
  refine E.int ?_
  walk_at "app"
  clear aL hxl
  refine W.cons ?_
  refine W1.set 7 ?_ nd
  refine E.callTy B.tuple bt_tuple ?_
  refine A.cons ?_
  refine E.bin ?_
  refine E.lst ?_
  refine A.cons ?_
  refine E.int ?_
  refine A.nil ?_
  walk_at "disp"
  refine E.var 2 rfl ?_
  refine O2.rep (by omega) (by omega) (szle (by simp; omega)) ?_
  refine A.nil ?_
  walk_at "cl"
  walk_at "n"
  rw [Int.toNat_natCast, rep_zero]
  refine W.cons ?_
  refine W1.set 8 ?_ nd
  refine E.dcallP GNear (hr.mono (by decide)) ?_
  refine A.cons ?_
  refine E.var 1 rfl ?_
  refine A.cons ?_
  refine E.var 7 rfl ?_
  refine A.nil ?_
  refine nearq rfl (by rw [zeroM_len]; omega) (by rw [zeroM_len]; omega) zeroM_pos fun one o1 op => ?_
  rw [zeroM_len] at o1
  walk_at "n"
  refine W.cons ?_
  refine W1.set 9 ?_ nd
  refine E.dcallP GNear (hr.mono (by decide)) ?_
  refine A.cons ?_
  refine E.var 1 rfl ?_
  refine A.cons ?_
  refine E.var 8 rfl ?_
  refine A.nil ?_
  refine nearq rfl (by omega) (by omega) op fun two t1 tp => ?_
  rw [o1] at t1
  walk_at "n"
  refine W.cons ?_
  refine W1.set 10 ?_ nd
  refine E.dcallP GNear (hr.mono (by decide)) ?_
  refine A.cons ?_
  refine E.var 1 rfl ?_
  refine A.cons ?_
  refine E.var 9 rfl ?_
  refine A.nil ?_
  refine nearq rfl (by omega) (by omega) tp fun fac f1 fp => ?_
  rw [t1] at f1
  walk_at "n"
  have tn : ((rk.length : Int)).toNat = rk.length := Int.toNat_natCast _
  refine W.cons ?_
  refine W1.set 11 ?_ nd
  refine E.callTy B.tuple bt_tuple ?_
  refine A.cons ?_
  refine E.lcMr 12 (fun j => .int (ixI one (j : Int) + ixI fac (j : Int))) B.range rfl nd (blkOk_by (by kernel_rfl)) ?_
  skip -- [one[k] + factor[k] for k in range(dimension)] i
  refine E.var 2 rfl ?_
  refine ⟨_, rfl, by omega, by omega, fun j hj s H0 C cl fp F' le => ?_, ?_⟩
  · have a1 : atI (one.map D.int) (j : Int) = some (.int (ixI one j)) := ixI_at (by omega) (by omega)
    have a2 : atI (fac.map D.int) (j : Int) = some (.int (ixI fac j)) := ixI_at (by omega) (by omega)
    walk_at "n"
    skip -- [one[k] + factor[k] for k in range(dimension)] e
    refine E.bin ?_
    refine E.ix ?_
    refine E.var 8 rfl ?_
    refine E.var 12 rfl ?_
    walk_at "ix"
    refine E.ix ?_
    refine E.var 10 rfl ?_
    refine E.var 12 rfl ?_
    walk_at "ix"
    walk_at "o"
    exact ⟨rfl, rfl⟩
  rw [tn, addM_map]
  refine A.nil ?_
  walk_at "cl"
  walk_at "n"
  refine W.cons ?_
  refine W1.set 13 ?_ nd
  refine E.callTy B.tuple bt_tuple ?_
  refine A.cons ?_
  refine E.lcMr 12 (fun j => .int (ixI two (j : Int) + ixI fac (j : Int))) B.range rfl nd (blkOk_by (by kernel_rfl)) ?_
  skip -- [two[k] + factor[k] for k in range(dimension)] i
  refine E.var 2 rfl ?_
  refine ⟨_, rfl, by omega, by omega, fun j hj s H0 C cl fp F' le => ?_, ?_⟩
  · have a1 : atI (two.map D.int) (j : Int) = some (.int (ixI two j)) := ixI_at (by omega) (by omega)
    have a2 : atI (fac.map D.int) (j : Int) = some (.int (ixI fac j)) := ixI_at (by omega) (by omega)
    walk_at "n"
    skip -- [two[k] + factor[k] for k in range(dimension)] e
    refine E.bin ?_
    refine E.ix ?_
    refine E.var 9 rfl ?_
    refine E.var 12 rfl ?_
    walk_at "ix"
    refine E.ix ?_
    refine E.var 10 rfl ?_
    refine E.var 12 rfl ?_
    walk_at "ix"
    walk_at "o"
    exact ⟨rfl, rfl⟩
  rw [tn, addM_map]
  refine A.nil ?_
  walk_at "cl"
  walk_at "n"
  have GUnl1 := GUnl k rk hk hrk
  refine W.cons ?_
  refine W1.iff ?_
  refine Tw.t ?_
  refine Tw.or ?_
  refine T.not ?_
  refine T.truth ?_
  refine E.dcall GIs (hr.mono (by decide)) ?_
  refine A.cons ?_
  refine E.var 6 rfl ?_
  refine A.cons ?_
  refine E.var 3 rfl ?_
  refine A.cons ?_
  refine E.var 4 rfl ?_
  refine A.nil ?_
  refine ⟨[_, _, _], rfl, ⟨k, rk, rfl, by omega⟩, ?_⟩
  rintro _ rfl
  walk_at "tr"
  refine iteF ?_
  refine Tw.or1 ?_
  refine T.not ?_
  refine T.truth ?_
  refine E.dcall GUnl1 (hr.mono (by decide)) ?_
  refine A.cons ?_
  refine E.var 6 rfl ?_
  refine A.cons ?_
  refine E.var 3 rfl ?_
  refine A.cons ?_
  refine E.var 4 rfl ?_
  refine A.nil ?_
  refine ⟨[_, _, _], rfl, rfl, ?_⟩
  rintro _ rfl
  walk_at "tr"
  refine iteF (W.nil ?_)
  have hor : RkOk (rgI rk.length) := rkok_rg hrk.1 hrk.2.1
  let rho (z w p b t a x kk : Option R) : Ro := [some (.d (.rol (ns.map D.int))), some (.c 1), some (.d (.int rk.length)), some (.d (.str k)), some (.d (ilst rk)), some (.c 2), some (.d (orD CO k rk)), some (.d (mon (zeroM rk.length))), some (.d (mon one)), some (.d (mon two)), some (.d (mon fac)), some (.d (mon (addM rk.length one fac))), kk, some (.d (mon (addM rk.length two fac))), z, w, p, b, t, a, x]
  let own0 : List Cell := [.tab lamQ, .any PoolI, .lst (hs0 ++ [R.d (.int 0)])]
  let prs : List (List Int × List Int) := [(one, two), (two, one), (one, one), (addM rk.length one fac, addM rk.length two fac), (addM rk.length two fac, addM rk.length one fac), (zeroM rk.length, one), (one, zeroM rk.length)]
  have hprs : ∀ p ∈ prs, p.1.length = rk.length ∧ p.2.length = rk.length := by
    intro p hp
    simp only [prs, List.mem_cons, List.not_mem_nil, or_false] at hp
    rcases hp with rfl | rfl | rfl | rfl | rfl | rfl | rfl <;> simp [addM_len, zeroM_len, o1, t1]
  refine W.cut (fun o ρ => ∃ z w, o = own0 ∧ ρ = rho z w none none none none none none) ?_ ?_
  · refine W1.forL (fun i o ρ => ∃ z w, o = own0 ∧ ρ = rho z w none none none none none none) rfl PassesOwn.never ?_
    refine E.lst ?_
    refine A.cons ?_
    refine E.tup ?_
    refine A.cons ?_
    refine E.var 8 rfl ?_
    refine A.cons ?_
    refine E.var 9 rfl ?_
    refine A.nil ?_
    walk_at "disp"
    refine A.cons ?_
    refine E.tup ?_
    refine A.cons ?_
    refine E.var 9 rfl ?_
    refine A.cons ?_
    refine E.var 8 rfl ?_
    refine A.nil ?_
    walk_at "disp"
    refine A.cons ?_
    refine E.tup ?_
    refine A.cons ?_
    refine E.var 8 rfl ?_
    refine A.cons ?_
    refine E.var 8 rfl ?_
    refine A.nil ?_
    walk_at "disp"
    refine A.cons ?_
    refine E.tup ?_
    refine A.cons ?_
    refine E.var 11 rfl ?_
    refine A.cons ?_
    refine E.var 13 rfl ?_
    refine A.nil ?_
    walk_at "disp"
    refine A.cons ?_
    refine E.tup ?_
    refine A.cons ?_
    refine E.var 13 rfl ?_
    refine A.cons ?_
    refine E.var 11 rfl ?_
    refine A.nil ?_
    walk_at "disp"
    refine A.cons ?_
    refine E.tup ?_
    refine A.cons ?_
    refine E.var 7 rfl ?_
    refine A.cons ?_
    refine E.var 8 rfl ?_
    refine A.nil ?_
    walk_at "disp"
    refine A.cons ?_
    refine E.tup ?_
    refine A.cons ?_
    refine E.var 8 rfl ?_
    refine A.cons ?_
    refine E.var 7 rfl ?_
    refine A.nil ?_
    walk_at "disp"
    refine A.nil ?_
    walk_at "disp"
    refine ⟨prs.map fun p => .tup [mon p.1, mon p.2], .inl rfl, ⟨none, none, rfl, rfl⟩, ?_, ?_⟩
    · rintro i d o ρ hd ⟨z, w, rfl, rfl⟩
      obtain ⟨⟨a, b⟩, hm, rfl⟩ := List.mem_map.mp (List.mem_of_getElem? hd)
      obtain ⟨la, lb⟩ := hprs _ hm
      replace la : a.length = rk.length := la
      replace lb : b.length = rk.length := lb
      refine Tg.name 14 ?_ nd
      refine W.cons ?_
      refine W1.iff ?_
      refine T.not ?_
      refine T.truth ?_
      refine E.dcall GSays (hr.mono (by decide)) ?_
      refine A.cons ?_
      refine E.dmeth tO.cls MPre (hr.mono (by decide)) ?_
      refine E.var 6 rfl ?_
      refine ⟨_, _, rfl, rfl, ?_⟩
      refine A.cons ?_
      refine E.ix ?_
      refine E.var 14 rfl ?_
      refine E.int ?_
      walk_at "ix"
      refine A.cons ?_
      refine E.ix ?_
      refine E.var 14 rfl ?_
      refine E.int ?_
      walk_at "ix"
      refine A.nil ?_
      refine ⟨[_, _], rfl, ⟨k, rk, a, b, rfl, hrk, la, lb⟩, ?_⟩
      rintro _ ⟨_, _, _, _, e, rfl⟩
      obtain ⟨rfl, rfl, rfl, rfl⟩ := pre_inj e
      refine A.cons ?_
      refine E.dcall GEar (hr.mono (by decide)) ?_
      refine A.cons ?_
      refine E.var 3 rfl ?_
      refine A.cons ?_
      refine E.var 4 rfl ?_
      refine A.cons ?_
      refine E.ix ?_
      refine E.var 14 rfl ?_
      refine E.int ?_
      walk_at "ix"
      refine A.cons ?_
      refine E.ix ?_
      refine E.var 14 rfl ?_
      refine E.int ?_
      walk_at "ix"
      refine A.nil ?_
      refine ⟨[_, _, _, _], rfl, ⟨_, _, _, _, rfl, hrk.2.1, hrk.ix la, lb.trans la.symm⟩, ?_⟩
      rintro _ ⟨_, _, _, _, e, rfl⟩
      obtain ⟨rfl, rfl, rfl, rfl⟩ := ear_inj2 e
      refine A.nil ?_
      refine ⟨[_, _], rfl, ⟨_, _, rfl⟩, ?_⟩
      rintro _ ⟨_, _, e, rfl⟩
      cases e
      walk_at "tr"
      rw [ear_lt]
      simp only [beq_self_eq_true, Bool.not_true]
      refine iteF (W.nil ?_)
      refine W.cons ?_
      refine W1.set 15 ?_ nd
      refine E.dcall GEar (hr.mono (by decide)) ?_
      refine A.cons ?_
      refine E.str ?_
      refine A.cons ?_
      refine E.lsR B.list B.range rfl ?_
      skip -- list(range(dimension)) i
      refine E.var 2 rfl ?_
      refine ⟨_, rfl, by omega, by omega, ?_⟩
      rw [tn, rgI_map]
      refine A.cons ?_
      refine E.ix ?_
      refine E.var 14 rfl ?_
      refine E.int ?_
      walk_at "ix"
      refine A.cons ?_
      refine E.ix ?_
      refine E.var 14 rfl ?_
      refine E.int ?_
      walk_at "ix"
      refine A.nil ?_
      refine ⟨[_, _, _, _], rfl, ⟨_, rgI rk.length, _, _, rfl, by rw [rgI_len]; omega, fun i hi => by have := rgI_mem hi; omega, by omega⟩, ?_⟩
      rintro _ ⟨_, _, _, _, e, rfl⟩
      obtain ⟨rfl, rfl, rfl, rfl⟩ := ear_inj2 e
      walk_at "n"
      refine W.cons ?_
      refine W1.iff ?_
      refine T.not ?_
      refine T.truth ?_
      refine E.dcall GSays (hr.mono (by decide)) ?_
      refine A.cons ?_
      refine E.dcall GBef (hr.mono (by decide)) ?_
      refine A.cons ?_
      refine E.ix ?_
      refine E.var 14 rfl ?_
      refine E.int ?_
      walk_at "ix"
      refine A.cons ?_
      refine E.ix ?_
      refine E.var 14 rfl ?_
      refine E.int ?_
      walk_at "ix"
      refine A.nil ?_
      refine ⟨[_, _], rfl, ⟨_, _, rfl, by omega, by omega, by omega⟩, ?_⟩
      rintro _ ⟨_, _, e, rfl⟩
      obtain ⟨rfl, rfl⟩ := mon2_inj e
      refine A.cons ?_
      refine E.var 15 rfl ?_
      refine A.nil ?_
      refine ⟨[_, _], rfl, ⟨_, _, rfl⟩, ?_⟩
      rintro _ ⟨_, _, e, rfl⟩
      cases e
      walk_at "tr"
      have es : earI ("degree" : Str) (rgI rk.length) a b = decide (stdK a < stdK b) := by
        show earI kDeg _ _ _ = _
        rw [ear_lt, ordK_std la, ordK_std lb]
      rw [es]
      simp only [beq_self_eq_true, Bool.not_true]
      exact iteF (W.nil (W.nil ⟨_, _, rfl, rfl⟩))
    · rintro o ρ ⟨z, w, rfl, rfl⟩
      exact ⟨z, w, rfl, rfl⟩
  rintro o ρ ⟨z, w, rfl, rfl⟩
  have esh : decide (ordK k rk (addM rk.length one fac) < ordK k rk (addM rk.length two fac)) = decide (ordK k rk one < ordK k rk two) := by
    rw [← ear_lt, ← ear_lt]
    exact ear_shift hrk o1 (by omega) (by omega)
  have euf := unit_first (k := k) hrk (a := two) (by omega) tp
  refine W.cut (fun o ρ => o = own0 ∧ ρ = rho z w none none none none none none) ?_ ?_
  · skip
    refine W1.iff ?_
    refine Tw.t ?_
    refine Tw.or ?_
    refine T.cmp ?_
    refine E.dmeth tO.cls MPre (hr.mono (by decide)) ?_
    refine E.var 6 rfl ?_
    refine ⟨_, _, rfl, rfl, ?_⟩
    refine A.cons ?_
    refine E.var 8 rfl ?_
    refine A.cons ?_
    refine E.var 9 rfl ?_
    refine A.nil ?_
    refine ⟨[_, _], rfl, ⟨k, rk, one, two, rfl, hrk, o1, by omega⟩, ?_⟩
    rintro _ ⟨_, _, _, _, e, rfl⟩
    obtain ⟨rfl, rfl, rfl, rfl⟩ := pre_inj e
    refine E.dmeth tO.cls MPre (hr.mono (by decide)) ?_
    refine E.var 6 rfl ?_
    refine ⟨_, _, rfl, rfl, ?_⟩
    refine A.cons ?_
    refine E.var 11 rfl ?_
    refine A.cons ?_
    refine E.var 13 rfl ?_
    refine A.nil ?_
    refine ⟨[_, _], rfl, ⟨k, rk, _, _, rfl, hrk, addM_len, addM_len⟩, ?_⟩
    rintro _ ⟨_, _, _, _, e, rfl⟩
    obtain ⟨rfl, rfl, rfl, rfl⟩ := pre_inj e
    skip
    refine O2.neB ?_
    refine ⟨_, rfl, ?_⟩
    rw [esh]
    simp only [beq_self_eq_true, Bool.not_true]
    refine iteF ?_
    refine Tw.or1 ?_
    refine T.cmp ?_
    refine E.dmeth tO.cls MPre (hr.mono (by decide)) ?_
    refine E.var 6 rfl ?_
    refine ⟨_, _, rfl, rfl, ?_⟩
    refine A.cons ?_
    refine E.var 7 rfl ?_
    refine A.cons ?_
    refine E.var 9 rfl ?_
    refine A.nil ?_
    refine ⟨[_, _], rfl, ⟨k, rk, _, _, rfl, hrk, zeroM_len, by omega⟩, ?_⟩
    rintro _ ⟨_, _, _, _, e, rfl⟩
    obtain ⟨rfl, rfl, rfl, rfl⟩ := pre_inj e
    refine E.cmp ?_
    refine E.var 9 rfl ?_
    refine E.var 7 rfl ?_
    refine O2.eqIT hu ?_
    skip
    refine O2.eqB ?_
    refine ⟨_, rfl, ?_⟩
    rw [euf]
    have hbb : ((!decide (two = zeroM rk.length)) == decide (two = zeroM rk.length)) = false := by cases decide (two = zeroM rk.length) <;> rfl
    rw [hbb]
    exact iteF (W.nil ⟨rfl, rfl⟩)
  rintro o ρ ⟨rfl, rfl⟩
  refine W.cons ?_
  refine W1.set 16 ?_ nd
  refine E.lstC ?_
  refine A.nil ?_
  walk_at "dispC"
  walk_at "n"
  refine W.cons ?_
  refine W1.set 17 ?_ nd
  refine E.var 8 rfl ?_
  walk_at "n"
  refine W.cut (fun o ρ => ∃ (pls : List (List Int)) (bf : List Int) (kk : Option R), o = own0 ++ [.lst ((pls.map mon).map R.d)] ∧ ρ = rho z w (some (.c 3)) (some (.d (mon bf))) none none none kk ∧ pls.length ≤ 10 ∧ ∀ es ∈ pls, es.length = rk.length) ?_ ?_
  · refine W1.forR (fun i o ρ => ∃ (pls : List (List Int)) (bf : List Int) (kk : Option R), o = own0 ++ [.lst ((pls.map mon).map R.d)] ∧ ρ = rho z w (some (.c 3)) (some (.d (mon bf))) none none none kk ∧ pls.length ≤ i ∧ (∀ es ∈ pls, es.length = rk.length) ∧ bf.length = rk.length ∧ ∀ e ∈ bf, 0 ≤ e) B.range rfl PassesOwn.never ?_
    refine E.dcallP GTake (hr.mono (by decide)) ?_
    refine A.cons ?_
    refine E.var 1 rfl ?_
    refine A.cons ?_
    refine E.int ?_
    refine A.nil ?_
    refine tkn rfl (by decide) (by decide) fun y y0 y1 => ?_
    refine ⟨_, rfl, ⟨by omega, by omega⟩, ⟨[], one, none, rfl, rfl, by simp, by simp, o1, op⟩, ?_, ?_⟩
    · rintro i o ρ hi ⟨pls, bf, kk, rfl, rfl, p1, p2, p3, p4⟩
      refine Tg.name 12 ?_ nd
      refine W.cons ?_
      refine W1.set 17 ?_ nd
      refine E.dcallP GNear (hr.mono (by decide)) ?_
      refine A.cons ?_
      refine E.var 1 rfl ?_
      refine A.cons ?_
      refine E.var 17 rfl ?_
      refine A.nil ?_
      refine nearq rfl (by omega) (by omega) p4 fun b2 q1 q2 => ?_
      walk_at "n"
      refine W.cons ?_
      refine W1.iff ?_
      refine T.cmp ?_
      refine E.var 17 rfl ?_
      refine E.var 16 rfl ?_
      refine O2.ninTC (ns := b2) (as := pls) hu2 rfl ?_
      refine ⟨_, rfl, ?_⟩
      refine ifn (fun h => ?_) (fun h => W.nil (W.nil ⟨pls, b2, _, rfl, rfl, by omega, p2, by omega, q2⟩))
      have hlp : pls.length ≤ 10 := by omega
      refine W.cons ?_
      refine W1.expr ?_
      refine E.append ?_
      refine E.var 16 rfl ?_
      refine ⟨_, rfl, ?_, ?_⟩; rotate_left; exact ⟨_, rfl⟩
      refine E.var 17 rfl ?_
      walk_at "app"
      refine W.nil (W.nil ⟨pls ++ [b2], b2, _, by rw [← mons_snoc]; rfl, rfl, by simp; omega, fun es he => ?_, by omega, q2⟩)
      rcases List.mem_append.mp he with h | h
      · exact p2 es h
      · rw [List.mem_singleton.mp h]; omega
    · rintro o ρ ⟨pls, bf, kk, rfl, rfl, p1, p2, p3, p4⟩
      exact ⟨pls, bf, kk, rfl, rfl, by omega, p2⟩
  rintro o ρ ⟨pls, bf, kk, rfl, rfl, p1, p2⟩
  refine W.cut (fun o ρ => ∃ (pls : List (List Int)), o = own0 ++ [.lst ((pls.map mon).map R.d)] ∧ ρ = rho z w (some (.c 3)) (some (.d (mon bf))) none none none kk ∧ pls.length ≤ 11 ∧ ∀ es ∈ pls, es.length = rk.length) ?_ ?_
  · skip
    refine W1.iff ?_
    refine T.cmp ?_
    refine E.callB B.len bt_len ?_
    refine A.cons ?_
    refine E.var 16 rfl ?_
    refine A.nil ?_
    walk_at "cl"
    refine E.int ?_
    walk_at "o"
    refine ⟨_, rfl, ?_⟩
    refine ifd (fun h => ?_) (fun h => W.nil ⟨pls, rfl, rfl, by omega, p2⟩)
    obtain ⟨x1, hx1, hat1⟩ := at_ex (ms := pls) (r := 1) (by decide) (by simp at h; omega)
    have hat2 : atI ((pls.map mon).map R.d) 1 = some (.d (mon x1)) := atI_map hat1
    refine W.cons ?_
    refine W1.expr ?_
    refine E.append ?_
    refine E.var 16 rfl ?_
    refine ⟨_, rfl, ?_, ?_⟩; rotate_left; exact ⟨_, rfl⟩
    refine E.ix ?_
    refine E.var 16 rfl ?_
    refine E.int ?_
    walk_at "ix"
    walk_at "app"
    refine W.nil ⟨pls ++ [x1], by rw [← mons_snoc]; rfl, rfl, by simp; omega, fun es he => ?_⟩
    rcases List.mem_append.mp he with h | h
    · exact p2 es h
    · rw [List.mem_singleton.mp h]; exact p2 _ hx1
  rintro o ρ ⟨pls, rfl, rfl, p1, p2⟩
  refine W.freeze 3 rfl ?_
  have GArr1 := GArr k rk pls hrk p2 (by omega)
  show W _ _ _ _ (own0 ++ [.gone]) (rho (z.map (subR 3 (.lst (pls.map mon)))) (w.map (subR 3 (.lst (pls.map mon)))) (some (.d (.lst (pls.map mon)))) (some (.d (mon bf))) none none none (kk.map (subR 3 (.lst (pls.map mon)))))
  generalize z.map (subR 3 (.lst (pls.map mon))) = z1
  generalize w.map (subR 3 (.lst (pls.map mon))) = w1
  generalize kk.map (subR 3 (.lst (pls.map mon))) = k1
  refine W.cons ?_
  refine W1.iff ?_
  refine T.not ?_
  refine T.truth ?_
  refine E.dcallT GArr1 hla (hr.mono (by decide)) ?_
  refine A.cons ?_
  refine E.var 6 rfl ?_
  refine A.cons ?_
  refine E.var 3 rfl ?_
  refine A.cons ?_
  refine E.var 4 rfl ?_
  refine A.cons ?_
  refine E.var 16 rfl ?_
  refine A.nil ?_
  refine ⟨rfl, fun ad => ⟨[], _, .dat (.dat (.dat (.dat .nil))), rfl, ?_⟩⟩
  rintro _ rfl
  walk_at "tr"
  refine iteF (W.nil ?_)
  refine W.cons ?_
  refine W1.setLc 18 ?_ rfl nd
  refine Lc.it1 12 (blkOk_by (by kernel_rfl)) ?_ nd
  refine It1.range B.range ?_
  skip -- [_law_take(pool, 5) - 1 for k in range(_law_take(pool, 5))] i
  refine E.dcallP GTake (hr.mono (by decide)) ?_
  refine A.cons ?_
  refine E.var 1 rfl ?_
  refine A.cons ?_
  refine E.int ?_
  refine A.nil ?_
  refine tkn rfl (by decide) (by decide) fun y y0 y1 => ?_
  refine ⟨_, rfl, ⟨by omega, by omega⟩, by simp; omega, fun j acc => ∃ ts : List Int, acc = ts.map D.int ∧ ts.length = j, ⟨[], rfl, rfl⟩, ?_, ?_⟩
  · rintro j d acc hd ⟨ts, rfl, e2⟩
    obtain ⟨i, hi, rfl⟩ := List.mem_map.mp (List.mem_of_getElem? hd)
    intro s H0 C cl fp F' le
    walk_at "n"
    skip -- [_law_take(pool, 5) - 1 for k in range(_law_take(pool, 5))] e
    refine E.bin ?_
    refine E.dcallP GTake (hr.mono (by decide)) ?_
    refine A.cons ?_
    refine E.var 1 rfl ?_
    refine A.cons ?_
    refine E.int ?_
    refine A.nil ?_
    refine tkn rfl (by decide) (by decide) fun u u0 u1 => ?_
    skip -- [_law_take(pool, 5) - 1 for k in range(_law_take(pool, 5))] e
    refine E.int ?_
    walk_at "o"
    exact ⟨rfl, _, rfl, ts ++ [u - 1], by simp, by simp [e2]⟩
  rintro _ ⟨tl, rfl, htl⟩
  rw [List.length_map, List.length_range] at htl
  walk_at "n"
  refine W.cons ?_
  refine W1.iff ?_
  refine Tw.t ?_
  refine Tw.or ?_
  refine T.not ?_
  refine T.truth ?_
  refine E.dcall GMade (hr.mono (by decide)) ?_
  refine A.cons ?_
  refine E.dcallP GWord (hr.mono (by decide)) ?_
  refine A.cons ?_
  refine E.var 1 rfl ?_
  refine A.nil ?_
  refine ⟨1, [], rfl, rfl, rfl, ?_⟩
  rintro _ ⟨wd, rfl, hwd⟩
  refine A.cons ?_
  refine E.var 18 rfl ?_
  refine A.nil ?_
  refine ⟨[_, _], rfl, ⟨(wd, tl), ⟨hwd, show tl.length ≤ 10 by omega⟩, rfl⟩, ?_⟩
  rintro _ rfl
  walk_at "tr"
  refine iteF ?_
  refine Tw.or1 ?_
  refine T.not ?_
  refine T.truth ?_
  refine E.dcall GMade (hr.mono (by decide)) ?_
  refine A.cons ?_
  refine E.var 3 rfl ?_
  refine A.cons ?_
  refine E.var 18 rfl ?_
  refine A.nil ?_
  refine ⟨[_, _], rfl, ⟨(k, tl), ⟨hs.mono (by decide), show tl.length ≤ 10 by omega⟩, rfl⟩, ?_⟩
  rintro _ rfl
  walk_at "tr"
  refine iteF (W.nil ?_)
  have hpl : (pls.map mon).length = pls.length := List.length_map ..
  refine W.cons ?_
  refine W1.set 19 ?_ nd
  refine E.dcallP GTake (hr.mono (by decide)) ?_
  refine A.cons ?_
  refine E.var 1 rfl ?_
  refine A.cons ?_
  refine E.bin ?_
  refine E.callB B.len bt_len ?_
  refine A.cons ?_
  refine E.var 16 rfl ?_
  refine A.nil ?_
  walk_at "cl"
  refine E.int ?_
  walk_at "o"
  refine A.nil ?_
  refine tkn rfl (by omega) (by omega) fun a a0 a1 => ?_
  walk_at "n"
  refine W.cons ?_
  refine W1.set 20 ?_ nd
  refine E.bin ?_
  refine E.var 9 rfl ?_
  refine E.tup ?_
  refine A.cons ?_
  refine E.int ?_
  refine A.nil ?_
  walk_at "disp"
  refine O2.catT (by intro z; rw [List.map_eq_nil_iff.mp z] at t1; simp at t1; omega) (szle (by simp; omega)) ?_
  walk_at "n"
  refine W.cut (fun o ρ => ∃ wr : List Int, wr.length ≠ rk.length ∧ o = own0 ++ [.gone] ∧ ρ = rho z1 w1 (some (.d (.lst (pls.map mon)))) (some (.d (mon bf))) (some (.d (ilst tl))) (some (.d (.int a))) (some (.d (mon wr))) k1) ?_ ?_
  · have w0 : (two ++ [0]).length ≠ rk.length := by simp; omega
    have e0 : D.tup (two.map D.int ++ [D.int 0]) = mon (two ++ [0]) := by simp [mon]
    refine W1.iff ?_
    refine Tw.t ?_
    refine Tw.and ?_
    refine T.cmp ?_
    refine E.var 2 rfl ?_
    refine E.int ?_
    walk_at "o"
    refine ⟨_, rfl, ?_⟩
    refine ifd (fun h => ?_) (fun h => iteF (W.nil ⟨_, w0, rfl, by rw [← e0]; rfl⟩))
    refine Tw.and1 ?_
    refine T.cmp ?_
    refine E.dcallP GTake (hr.mono (by decide)) ?_
    refine A.cons ?_
    refine E.var 1 rfl ?_
    refine A.cons ?_
    refine E.int ?_
    refine A.nil ?_
    refine tkn rfl (by decide) (by decide) fun u u0 u1 => ?_
    refine E.int ?_
    walk_at "o"
    refine ⟨_, rfl, ?_⟩
    refine ifd (fun h2 => ?_) (fun h2 => W.nil ⟨_, w0, rfl, by rw [← e0]; rfl⟩)
    have hn : ¬ (HT.sIx (two.map D.int).length 0 (some 1) = 0 ∧ HT.sIx (two.map D.int).length (two.map D.int).length none = (two.map D.int).length) := by
      rw [List.length_map]
      simp only [HT.sIx]
      split <;> omega
    refine W.cons ?_
    refine W1.set 20 ?_ nd
    refine E.slice ?_
    refine E.var 9 rfl ?_
    refine PoE.some ?_
    refine E.int ?_
    refine ⟨_, rfl, ?_⟩
    refine PoE.none ?_
    walk_at "sl"
    walk_at "n"
    rw [cutD_from (by decide)]
    refine W.nil ⟨two.drop 1, by simp; omega, rfl, ?_⟩
    show _ = rho z1 w1 _ _ _ _ (some (.d (.tup ((two.drop 1).map D.int)))) k1
    rw [List.map_drop]
    rfl
  rintro o ρ ⟨wr, hwr, rfl, rfl⟩
  refine W.cons ?_
  refine W1.iff ?_
  refine Tw.t ?_
  refine Tw.or ?_
  refine T.not ?_
  refine T.truth ?_
  refine E.dcall GNoP (hr.mono (by decide)) ?_
  refine A.cons ?_
  refine E.var 6 rfl ?_
  refine A.cons ?_
  refine E.var 20 rfl ?_
  refine A.cons ?_
  refine E.var 8 rfl ?_
  refine A.nil ?_
  refine ⟨[_, _, _], rfl, ⟨k, rk, wr, one, rfl, fun h => hwr h.1⟩, ?_⟩
  rintro _ rfl
  walk_at "tr"
  refine iteF ?_
  refine Tw.or1 ?_
  refine T.not ?_
  refine T.truth ?_
  refine E.dcall GNoP (hr.mono (by decide)) ?_
  refine A.cons ?_
  refine E.var 6 rfl ?_
  refine A.cons ?_
  refine E.var 8 rfl ?_
  refine A.cons ?_
  refine E.var 20 rfl ?_
  refine A.nil ?_
  refine ⟨[_, _, _], rfl, ⟨k, rk, one, wr, rfl, fun h => hwr h.2⟩, ?_⟩
  rintro _ rfl
  walk_at "tr"
  refine iteF (W.nil ?_)
  have GNoA1 := GNoA k rk (pls.take a.toNat ++ [wr] ++ pls.drop a.toNat) ⟨wr, by simp, hwr⟩
  have c1 : cutD (pls.map mon) none (some a) = (pls.take a.toNat).map mon := by rw [cutD_to a0 (by omega), List.map_take]
  have c2 : cutD (pls.map mon) (some a) none = (pls.drop a.toNat).map mon := by rw [cutD_from a0, List.map_drop]
  refine W.cons ?_
  refine W1.ret ?_
  refine E.dcall GNoA1 (hr.mono (by decide)) ?_
  refine A.cons ?_
  refine E.var 6 rfl ?_
  refine A.cons ?_
  refine E.bin ?_
  refine E.bin ?_
  refine E.slice ?_
  refine E.var 16 rfl ?_
  refine PoE.none ?_
  refine PoE.some ?_
  refine E.var 19 rfl ?_
  refine ⟨_, rfl, ?_⟩
  walk_at "sl"
  refine E.lst ?_
  refine A.cons ?_
  refine E.var 20 rfl ?_
  refine A.nil ?_
  walk_at "disp"
  rw [c1]
  refine O2.cat (szle (by simp; omega)) ?_
  refine E.slice ?_
  refine E.var 16 rfl ?_
  refine PoE.some ?_
  refine E.var 19 rfl ?_
  refine ⟨_, rfl, ?_⟩
  refine PoE.none ?_
  walk_at "sl"
  rw [c2]
  refine O2.cat (szle (by simp; omega)) ?_
  refine A.nil ?_
  refine ⟨[_, _], rfl, by simp, ?_⟩
  rintro _ rfl
  exact ⟨rfl, _, rfl, rfl⟩
end

end Toy
namespace Toy
open PySem PySem.Spec PyProof.Rows L2 DL
set_option maxHeartbeats 0 in
theorem all_mk {l : PySem.W.OpenLaw} {w : World} {K : PySem.W.Frag} {h : Heap} {mg : Str → Option Value} {fa CO Z Y S TX IX NX cA T0 f1 f2 f3 f4 f5 f6 f7 f8 f9 f10 f11 f12 f13 f14 f15 f16 f17 f18 f19 f20 f21 f22 f23 f24 f25 f26 f27 : Addr} (X : K.In h) (G : h.Ns mainGlobals mg) (hfa : mg "law" = some (.ref fa))
    {fd1 fd2 fd3 fd4 fd5 fd6 fd7 fd8 fd9 fd10 fd11 fd12 fd13 fd14 fd15 fd16 fd17 fd18 fd19 fd20 fd21 fd22 fd23 fd24 fd25 fd26 fd27 : FuncData}  
    (FD1 : FunD K "check_dimension" "check_dimension" (defArgs sDim) (defBody sDim) (defScope sDim) [] [] f1 fd1)
    (FD2 : FunD K "check_length" "check_length" (defArgs sLen) (defBody sLen) (defScope sLen) [] [] f2 fd2)
    (FD3 : FunD K "standard_key" "standard_key" (defArgs sStd) (defBody sStd) (defScope sStd) [] [] f3 fd3)
    (FD4 : FunD K "comes_before" "comes_before" (defArgs sBef) (defBody sBef) (defScope sBef) [] [] f4 fd4)
    (FD5 : FunD K "order_key" "order_key" (defArgs sKey) (defBody sKey) (defScope sKey) [] [] f5 fd5)
    (FD6 : FunD K "__init__" "Order.__init__" (defArgs sOInit) (defBody sOInit) (defScope sOInit) [] [] f6 fd6)
    (FD7 : FunD K "precedes" "Order.precedes" (defArgs sPre) (defBody sPre) (defScope sPre) [] [] f7 fd7)
    (FD8 : FunD K "__eq__" "Order.__eq__" (defArgs sOEq) (defBody sOEq) (defScope sOEq) [] [] f8 fd8)
    (FD9 : FunD K "arranged" "Order.arranged" (defArgs sArr) (defBody sArr) (defScope sArr) [] [] f9 fd9)
    (FD10 : FunD K "_law_take" "_law_take" (defArgs sTake) (defBody sTake) (defScope sTake) [] [] f10 fd10)
    (FD11 : FunD K "_law_pool" "_law_pool" (defArgs sPool) (defBody sPool) (defScope sPool) [] [] f11 fd11)
    (FD12 : FunD K "_law_integer" "_law_integer" (defArgs sInteger) (defBody sInteger) (defScope sInteger) [] [] f12 fd12)
    (FD13 : FunD K "_law_says" "_law_says" (defArgs sSays) (defBody sSays) (defScope sSays) [] [] f13 fd13)
    (FD14 : FunD K "_law_earlier" "_law_earlier" (defArgs sEar) (defBody sEar) (defScope sEar) [] [] f14 fd14)
    (FD15 : FunD K "_law_monomials" "_law_monomials" (defArgs sMono) (defBody sMono) (defScope sMono) [] [] f15 fd15)
    (FD16 : FunD K "_law_ranking" "_law_ranking" (defArgs sRank) (defBody sRank) (defScope sRank) [] [] f16 fd16)
    (FD17 : FunD K "_law_near" "_law_near" (defArgs sNear) (defBody sNear) (defScope sNear) [] [] f17 fd17)
    (FD18 : FunD K "_law_word" "_law_word" (defArgs sWord) (defBody sWord) (defScope sWord) [] [] f18 fd18)
    (FD19 : FunD K "_law_ascending" "_law_ascending" (defArgs sAsc) (defBody sAsc) (defScope sAsc) [] [] f19 fd19)
    (FD20 : FunD K "_law_is" "_law_is" (defArgs sIs) (defBody sIs) (defScope sIs) [] [] f20 fd20)
    (FD21 : FunD K "_law_no_order" "_law_no_order" (defArgs sNoO) (defBody sNoO) (defScope sNoO) [] [] f21 fd21)
    (FD22 : FunD K "_law_no_arranging" "_law_no_arranging" (defArgs sNoA) (defBody sNoA) (defScope sNoA) [] [] f22 fd22)
    (FD23 : FunD K "_law_no_preceding" "_law_no_preceding" (defArgs sNoP) (defBody sNoP) (defScope sNoP) [] [] f23 fd23)
    (FD24 : FunD K "_law_made" "_law_made" (defArgs sMade) (defBody sMade) (defScope sMade) [] [] f24 fd24)
    (FD25 : FunD K "_law_unlike" "_law_unlike" (defArgs sUnl) (defBody sUnl) (defScope sUnl) [] [] f25 fd25)
    (FD26 : FunD K "_law_arranges" "_law_arranges" (defArgs sArrs) (defBody sArrs) (defScope sArrs) [] [] f26 fd26)
    (FD27 : FunD K "law" "law" (defArgs sLaw) (defBody sLaw) (defScope sLaw) [] [] f27 fd27)
    (h0 : PySem.W.nsIn K mainGlobals "check_dimension" = some (some (.ref f1)))
    (h1 : PySem.W.nsIn K mainGlobals "check_length" = some (some (.ref f2)))
    (h2 : PySem.W.nsIn K mainGlobals "standard_key" = some (some (.ref f3)))
    (h3 : PySem.W.nsIn K mainGlobals "comes_before" = some (some (.ref f4)))
    (h4 : PySem.W.nsIn K mainGlobals "order_key" = some (some (.ref f5)))
    (h5 : PySem.W.findIn K (.ref CO) "__init__" = some (some (.ref f6)))
    (h6 : PySem.W.isFn K (.ref f6) = true)
    (h7 : PySem.W.makesIn K CO = true)
    (h8 : PySem.W.keepIn K (.ref CO) = true)
    (h9 : PySem.W.findIn K (.ref CO) "precedes" = some (some (.ref f7)))
    (h10 : PySem.W.isFn K (.ref f7) = true)
    (h11 : PySem.W.findIn K (.ref CO) "__eq__" = some (some (.ref f8)))
    (h12 : PySem.W.isFn K (.ref f8) = true)
    (h13 : PySem.W.findIn K (.ref CO) "arranged" = some (some (.ref f9)))
    (h14 : PySem.W.isFn K (.ref f9) = true)
    (h15 : PySem.W.nsIn K mainGlobals "_law_take" = some (some (.ref f10)))
    (h16 : PySem.W.nsIn K mainGlobals "_law_pool" = some (some (.ref f11)))
    (h17 : PySem.W.nsIn K mainGlobals "_law_integer" = some (some (.ref f12)))
    (h18 : PySem.W.nsIn K mainGlobals "_law_says" = some (some (.ref f13)))
    (h19 : PySem.W.nsIn K mainGlobals "_law_earlier" = some (some (.ref f14)))
    (h20 : PySem.W.nsIn K mainGlobals "_law_monomials" = some (some (.ref f15)))
    (h21 : PySem.W.nsIn K mainGlobals "_law_ranking" = some (some (.ref f16)))
    (h22 : PySem.W.nsIn K mainGlobals "_law_near" = some (some (.ref f17)))
    (h23 : PySem.W.nsIn K mainGlobals "_law_word" = some (some (.ref f18)))
    (h24 : PySem.W.nsIn K mainGlobals "_law_ascending" = some (some (.ref f19)))
    (h25 : PySem.W.nsIn K mainGlobals "_law_is" = some (some (.ref f20)))
    (h26 : PySem.W.nsIn K mainGlobals "_law_no_order" = some (some (.ref f21)))
    (h27 : PySem.W.nsIn K mainGlobals "_law_no_arranging" = some (some (.ref f22)))
    (h28 : PySem.W.nsIn K mainGlobals "_law_no_preceding" = some (some (.ref f23)))
    (h29 : PySem.W.nsIn K mainGlobals "_law_made" = some (some (.ref f24)))
    (h30 : PySem.W.nsIn K mainGlobals "_law_unlike" = some (some (.ref f25)))
    (h31 : PySem.W.nsIn K mainGlobals "_law_arranges" = some (some (.ref f26)))
    (h32 : PySem.W.nsIn K mainGlobals "law" = some (some (.ref f27)))
    (h33 : HB.codeB K f9 cA = true)
    (h34 : PySem.W.codeHdIn K cA T0 = true)
    (h35 : K.lookup T0 = none)
    (h36 : PySem.W.nsIn K mainGlobals "abs" = some none)
    (h37 : PySem.W.nsIn K mainGlobals "int" = some none)
    (h38 : PySem.W.nsIn K mainGlobals "len" = some none)
    (h39 : PySem.W.nsIn K mainGlobals "list" = some none)
    (h40 : PySem.W.nsIn K mainGlobals "range" = some none)
    (h41 : PySem.W.nsIn K mainGlobals "isinstance" = some none)
    (h42 : PySem.W.nsIn K mainGlobals "bool" = some none)
    (h43 : PySem.W.nsIn K mainGlobals "tuple" = some none)
    (h44 : PySem.W.nsIn K mainGlobals "str" = some none)
    (h45 : PySem.W.nsIn K mainGlobals "sum" = some none)
    (h46 : PySem.W.nsIn K mainGlobals "sorted" = some none)
    (h47 : PySem.W.nsIn K mainGlobals "Order" = some (some (.ref CO)))
    (h48 : PySem.W.plainGet K CO Str.empty = true)
    (h49 : PySem.W.hasDictIn K CO = true)
    (h50 : PySem.W.plainOver K CO = true)
    (h51 : PySem.W.findIn K (.ref CO) "__setattr__" = some (some (.builtin "object.__setattr__")))
    (h52 : PySem.W.findIn K (.ref CO) "kind" = some none)
    (h53 : PySem.W.findIn K (.ref CO) "ranking" = some none)
    (h54 : PySem.W.findIn K (.ref CO) "dimension" = some none)
    (h55 : PySem.W.findIn K (.ref CO) "__class__" = some (some (.builtin "object.__class__")))
    (h56 : PySem.W.specialIn K (.builtin "object.__class__") "__get__" = some (some (.builtin "getset_descriptor.__get__")))
    (h57 : PySem.W.takesIn K (.builtin "object.__class__") = some true)
    (h58 : PySem.W.mroIn K CO (.type "object") = some true)
    (h59 : PySem.W.kitOne K (.ref CO) (.ref CO) = some true)
    (h60 : PySem.W.selfFirst K CO = true)
    (h61 : PySem.W.nsIn K mainGlobals "WrongDimension" = some (some (.ref Y)))
    (h62 : PySem.W.keepIn K (.ref Y) = true)
    (h63 : PySem.W.excIn K Y [.type "ValueError", .type "Exception", .type "BaseException", .type "object"] "ValueError.__new__" = true)
    (h64 : PySem.W.subIn K (.ref Y) (.type "BaseException") = some true)
    (h65 : PySem.W.typeIn K (.ref Y) = some (.type "type"))
    (h66 : PySem.W.nsIn K mainGlobals "BadOrder" = some (some (.ref Z)))
    (h67 : PySem.W.keepIn K (.ref Z) = true)
    (h68 : PySem.W.excIn K Z [.type "ValueError", .type "Exception", .type "BaseException", .type "object"] "ValueError.__new__" = true)
    (h69 : PySem.W.subIn K (.ref Z) (.type "BaseException") = some true)
    (h70 : PySem.W.typeIn K (.ref Z) = some (.type "type"))
    (h71 : PySem.W.nsIn K mainGlobals "SpotError" = some (some (.ref S)))
    (h72 : PySem.W.nsIn K mainGlobals "BadText" = some (some (.ref TX)))
    (h73 : PySem.W.nsIn K mainGlobals "BadIndex" = some (some (.ref IX)))
    (h74 : PySem.W.nsIn K mainGlobals "WrongCount" = some (some (.ref NX)))
    (h75 : PySem.W.nsIn K mainGlobals "ValueError" = some none)
    (h76 : PySem.W.findIn K (.ref Z) "__getattribute__" = some (some (.builtin "BaseException.__getattribute__")))
    (h77 : PySem.W.findIn K (.ref Z) "__getattr__" = some none)
    (h78 : PySem.W.hasDictIn K Z = true)
    (h79 : PySem.W.findIn K (.ref Z) "__class__" = some (some (.builtin "object.__class__")))
    (h80 : PySem.W.mroIn K Z (.type "object") = some true)
    (h81 : PySem.W.findIn K (.ref Y) "__getattribute__" = some (some (.builtin "BaseException.__getattribute__")))
    (h82 : PySem.W.findIn K (.ref Y) "__getattr__" = some none)
    (h83 : PySem.W.hasDictIn K Y = true)
    (h84 : PySem.W.findIn K (.ref Y) "__class__" = some (some (.builtin "object.__class__")))
    (h85 : PySem.W.mroIn K Y (.type "object") = some true)
    (h86 : PySem.W.exmOne K (.ref Z) (.ref Z) = some true)
    (h87 : PySem.W.exmOne K (.ref Y) (.ref Y) = some true)
    (h88 : PySem.W.kitOne K (.ref Z) (.ref S) = some true)
    (h89 : PySem.W.kitOne K (.ref Z) (.type "ValueError") = some true)
    (h90 : PySem.W.kitOne K (.ref Z) (.ref TX) = some false)
    (h91 : PySem.W.kitOne K (.ref Z) (.ref Y) = some false)
    (h92 : PySem.W.kitOne K (.ref Z) (.ref IX) = some false)
    (h93 : PySem.W.kitOne K (.ref Y) (.ref S) = some true)
    (h94 : PySem.W.kitOne K (.ref Y) (.ref Z) = some false)
    (h95 : PySem.W.kitOne K (.ref Y) (.ref NX) = some false)
    (h96 : PySem.W.kitOne K (.type "int") (.type "int") = some true)
    (h97 : PySem.W.kitOne K (.type "int") (.type "bool") = some false)
    (h98 : PySem.W.kitOne K (.type "bool") (.type "bool") = some true)
    (h99 : PySem.W.kitOne K (.type "str") (.type "str") = some true)
    (h100 : PySem.W.kitOne K (.type "tuple") (.type "tuple") = some true)
    (h101 : PySem.W.kitOne K (.type "list") (.type "list") = some true)
    (h102 : PySem.W.notFirst K CO (.ref CO) = true)
    : ∃ fd : FuncData, (∀ (s : Shared) (v : Value), BindsTo s fd ⟨[v], []⟩ [("script", v)]) ∧ ∀ base : Heap, K.In base → base.Ns mainGlobals mg → (∀ p ∈ [(cA, T0)], LamX.TabB base mg p.1 p.2) → FnOk l.prog w K mg base CX0 8 fa fd ["script"] (spT K T0 lamQ (fun _ ds => preP ds) fun _ r => r = .bl true) := by
  have e := hfa.symm.trans (PySem.W.mg_of X G h32)
  cases e
  have F1 : Fun K "check_dimension" "check_dimension" sDim _ fd1 := He5.fun_of FD1
  have b1 := F1.binds (ps := ["dimension"]) fun _ _ _ _ _ _ us hl => match us, hl with | [_], _ => rfl
  have D_check_dimension : Df K mg "check_dimension" sDim ["dimension"] _ fd1 := ⟨F1, PySem.W.mg_of X G h0, b1⟩
  have F2 : Fun K "check_length" "check_length" sLen _ fd2 := He5.fun_of FD2
  have b2 := F2.binds (ps := ["entries", "dimension"]) fun _ _ _ _ _ _ us hl => match us, hl with | [_, _], _ => rfl
  have D_check_length : Df K mg "check_length" sLen ["entries", "dimension"] _ fd2 := ⟨F2, PySem.W.mg_of X G h1, b2⟩
  have F3 : Fun K "standard_key" "standard_key" sStd _ fd3 := He5.fun_of FD3
  have b3 := F3.binds (ps := ["exponents"]) fun _ _ _ _ _ _ us hl => match us, hl with | [_], _ => rfl
  have D_standard_key : Df K mg "standard_key" sStd ["exponents"] _ fd3 := ⟨F3, PySem.W.mg_of X G h2, b3⟩
  have F4 : Fun K "comes_before" "comes_before" sBef _ fd4 := He5.fun_of FD4
  have b4 := F4.binds (ps := ["first", "second"]) fun _ _ _ _ _ _ us hl => match us, hl with | [_, _], _ => rfl
  have D_comes_before : Df K mg "comes_before" sBef ["first", "second"] _ fd4 := ⟨F4, PySem.W.mg_of X G h3, b4⟩
  have F5 : Fun K "order_key" "order_key" sKey _ fd5 := He5.fun_of FD5
  have b5 := F5.binds (ps := ["kind", "ranking", "exponents"]) fun _ _ _ _ _ _ us hl => match us, hl with | [_, _, _], _ => rfl
  have D_order_key : Df K mg "order_key" sKey ["kind", "ranking", "exponents"] _ fd5 := ⟨F5, PySem.W.mg_of X G h4, b5⟩
  have MK_CO : Mk K CO f6 := ⟨h7, h5, h6, h8⟩
  have F6 : Fun K "__init__" "Order.__init__" sOInit _ fd6 := He5.fun_of FD6
  have b6 := F6.binds (ps := ["self", "kind", "ranking"]) fun _ _ _ _ _ _ us hl => match us, hl with | [_, _, _], _ => rfl
  have D_Order___init__ : Dm K CO "__init__" "Order.__init__" sOInit ["self", "kind", "ranking"] f6 fd6 := ⟨F6, h5, h6, b6⟩
  have F7 : Fun K "precedes" "Order.precedes" sPre _ fd7 := He5.fun_of FD7
  have b7 := F7.binds (ps := ["self", "first", "second"]) fun _ _ _ _ _ _ us hl => match us, hl with | [_, _, _], _ => rfl
  have D_Order_precedes : Dm K CO "precedes" "Order.precedes" sPre ["self", "first", "second"] f7 fd7 := ⟨F7, h9, h10, b7⟩
  have F8 : Fun K "__eq__" "Order.__eq__" sOEq _ fd8 := He5.fun_of FD8
  have b8 := F8.binds (ps := ["self", "other"]) fun _ _ _ _ _ _ us hl => match us, hl with | [_, _], _ => rfl
  have D_Order___eq__ : Dm K CO "__eq__" "Order.__eq__" sOEq ["self", "other"] f8 fd8 := ⟨F8, h11, h12, b8⟩
  have F9 : Fun K "arranged" "Order.arranged" sArr _ fd9 := He5.fun_of FD9
  have b9 := F9.binds (ps := ["self", "monomials"]) fun _ _ _ _ _ _ us hl => match us, hl with | [_, _], _ => rfl
  have D_Order_arranged : Dm K CO "arranged" "Order.arranged" sArr ["self", "monomials"] f9 fd9 := ⟨F9, h13, h14, b9⟩
  have F10 : Fun K "_law_take" "_law_take" sTake _ fd10 := He5.fun_of FD10
  have b10 := F10.binds (ps := ["pool", "most"]) fun _ _ _ _ _ _ us hl => match us, hl with | [_, _], _ => rfl
  have D__law_take : Df K mg "_law_take" sTake ["pool", "most"] _ fd10 := ⟨F10, PySem.W.mg_of X G h15, b10⟩
  have F11 : Fun K "_law_pool" "_law_pool" sPool _ fd11 := He5.fun_of FD11
  have b11 := F11.binds (ps := ["script"]) fun _ _ _ _ _ _ us hl => match us, hl with | [_], _ => rfl
  have D__law_pool : Df K mg "_law_pool" sPool ["script"] _ fd11 := ⟨F11, PySem.W.mg_of X G h16, b11⟩
  have F12 : Fun K "_law_integer" "_law_integer" sInteger _ fd12 := He5.fun_of FD12
  have b12 := F12.binds (ps := ["thing"]) fun _ _ _ _ _ _ us hl => match us, hl with | [_], _ => rfl
  have D__law_integer : Df K mg "_law_integer" sInteger ["thing"] _ fd12 := ⟨F12, PySem.W.mg_of X G h17, b12⟩
  have F13 : Fun K "_law_says" "_law_says" sSays _ fd13 := He5.fun_of FD13
  have b13 := F13.binds (ps := ["told", "due"]) fun _ _ _ _ _ _ us hl => match us, hl with | [_, _], _ => rfl
  have D__law_says : Df K mg "_law_says" sSays ["told", "due"] _ fd13 := ⟨F13, PySem.W.mg_of X G h18, b13⟩
  have F14 : Fun K "_law_earlier" "_law_earlier" sEar _ fd14 := He5.fun_of FD14
  have b14 := F14.binds (ps := ["kind", "ranking", "one", "two"]) fun _ _ _ _ _ _ us hl => match us, hl with | [_, _, _, _], _ => rfl
  have D__law_earlier : Df K mg "_law_earlier" sEar ["kind", "ranking", "one", "two"] _ fd14 := ⟨F14, PySem.W.mg_of X G h19, b14⟩
  have F15 : Fun K "_law_monomials" "_law_monomials" sMono _ fd15 := He5.fun_of FD15
  have b15 := F15.binds (ps := ["dimension", "high"]) fun _ _ _ _ _ _ us hl => match us, hl with | [_, _], _ => rfl
  have D__law_monomials : Df K mg "_law_monomials" sMono ["dimension", "high"] _ fd15 := ⟨F15, PySem.W.mg_of X G h20, b15⟩
  have F16 : Fun K "_law_ranking" "_law_ranking" sRank _ fd16 := He5.fun_of FD16
  have b16 := F16.binds (ps := ["pool", "dimension"]) fun _ _ _ _ _ _ us hl => match us, hl with | [_, _], _ => rfl
  have D__law_ranking : Df K mg "_law_ranking" sRank ["pool", "dimension"] _ fd16 := ⟨F16, PySem.W.mg_of X G h21, b16⟩
  have F17 : Fun K "_law_near" "_law_near" sNear _ fd17 := He5.fun_of FD17
  have b17 := F17.binds (ps := ["pool", "before"]) fun _ _ _ _ _ _ us hl => match us, hl with | [_, _], _ => rfl
  have D__law_near : Df K mg "_law_near" sNear ["pool", "before"] _ fd17 := ⟨F17, PySem.W.mg_of X G h22, b17⟩
  have F18 : Fun K "_law_word" "_law_word" sWord _ fd18 := He5.fun_of FD18
  have b18 := F18.binds (ps := ["pool"]) fun _ _ _ _ _ _ us hl => match us, hl with | [_], _ => rfl
  have D__law_word : Df K mg "_law_word" sWord ["pool"] _ fd18 := ⟨F18, PySem.W.mg_of X G h23, b18⟩
  have F19 : Fun K "_law_ascending" "_law_ascending" sAsc _ fd19 := He5.fun_of FD19
  have b19 := F19.binds (ps := ["kind", "ranking", "places"]) fun _ _ _ _ _ _ us hl => match us, hl with | [_, _, _], _ => rfl
  have D__law_ascending : Df K mg "_law_ascending" sAsc ["kind", "ranking", "places"] _ fd19 := ⟨F19, PySem.W.mg_of X G h24, b19⟩
  have F20 : Fun K "_law_is" "_law_is" sIs _ fd20 := He5.fun_of FD20
  have b20 := F20.binds (ps := ["order", "kind", "ranking"]) fun _ _ _ _ _ _ us hl => match us, hl with | [_, _, _], _ => rfl
  have D__law_is : Df K mg "_law_is" sIs ["order", "kind", "ranking"] _ fd20 := ⟨F20, PySem.W.mg_of X G h25, b20⟩
  have F21 : Fun K "_law_no_order" "_law_no_order" sNoO _ fd21 := He5.fun_of FD21
  have b21 := F21.binds (ps := ["kind", "ranking"]) fun _ _ _ _ _ _ us hl => match us, hl with | [_, _], _ => rfl
  have D__law_no_order : Df K mg "_law_no_order" sNoO ["kind", "ranking"] _ fd21 := ⟨F21, PySem.W.mg_of X G h26, b21⟩
  have F22 : Fun K "_law_no_arranging" "_law_no_arranging" sNoA _ fd22 := He5.fun_of FD22
  have b22 := F22.binds (ps := ["order", "places"]) fun _ _ _ _ _ _ us hl => match us, hl with | [_, _], _ => rfl
  have D__law_no_arranging : Df K mg "_law_no_arranging" sNoA ["order", "places"] _ fd22 := ⟨F22, PySem.W.mg_of X G h27, b22⟩
  have F23 : Fun K "_law_no_preceding" "_law_no_preceding" sNoP _ fd23 := He5.fun_of FD23
  have b23 := F23.binds (ps := ["order", "one", "two"]) fun _ _ _ _ _ _ us hl => match us, hl with | [_, _, _], _ => rfl
  have D__law_no_preceding : Df K mg "_law_no_preceding" sNoP ["order", "one", "two"] _ fd23 := ⟨F23, PySem.W.mg_of X G h28, b23⟩
  have F24 : Fun K "_law_made" "_law_made" sMade _ fd24 := He5.fun_of FD24
  have b24 := F24.binds (ps := ["word", "told"]) fun _ _ _ _ _ _ us hl => match us, hl with | [_, _], _ => rfl
  have D__law_made : Df K mg "_law_made" sMade ["word", "told"] _ fd24 := ⟨F24, PySem.W.mg_of X G h29, b24⟩
  have F25 : Fun K "_law_unlike" "_law_unlike" sUnl _ fd25 := He5.fun_of FD25
  have b25 := F25.binds (ps := ["order", "kind", "ranking"]) fun _ _ _ _ _ _ us hl => match us, hl with | [_, _, _], _ => rfl
  have D__law_unlike : Df K mg "_law_unlike" sUnl ["order", "kind", "ranking"] _ fd25 := ⟨F25, PySem.W.mg_of X G h30, b25⟩
  have F26 : Fun K "_law_arranges" "_law_arranges" sArrs _ fd26 := He5.fun_of FD26
  have b26 := F26.binds (ps := ["order", "kind", "ranking", "places"]) fun _ _ _ _ _ _ us hl => match us, hl with | [_, _, _, _], _ => rfl
  have D__law_arranges : Df K mg "_law_arranges" sArrs ["order", "kind", "ranking", "places"] _ fd26 := ⟨F26, PySem.W.mg_of X G h31, b26⟩
  have F27 : Fun K "law" "law" sLaw _ fd27 := He5.fun_of FD27
  have b27 := F27.binds (ps := ["script"]) fun _ _ _ _ _ _ us hl => match us, hl with | [_], _ => rfl
  have D_law : Df K mg "law" sLaw ["script"] _ fd27 := ⟨F27, PySem.W.mg_of X G h32, b27⟩
  have hcd : fd9.code = .ref cA := HB.code_of FD9 h33
  have B : Bl mg := ⟨(PySem.W.mg_none_of X G h36), (PySem.W.mg_none_of X G h37), (PySem.W.mg_none_of X G h38), (PySem.W.mg_none_of X G h39), (PySem.W.mg_none_of X G h40), (PySem.W.mg_none_of X G h41), (PySem.W.mg_none_of X G h42), (PySem.W.mg_none_of X G h43), (PySem.W.mg_none_of X G h44), (PySem.W.mg_none_of X G h45), (PySem.W.mg_none_of X G h46)⟩
  have tO : OrT K mg CO := ⟨(PySem.W.mg_of X G h47), ⟨h48, h49, h50, h51⟩, h52, h53, h54, ⟨⟨h48, h49, h50, h51⟩, h55, h56, h57, h58⟩, h59, h60⟩
  have tW : WdT K mg Y := ⟨(PySem.W.mg_of X G h61), h62, h63, h64, h65⟩
  have tZ : BoT K mg Z := ⟨(PySem.W.mg_of X G h66), h67, h68, h69, h70⟩
  have tX : ErO K mg Z Y S TX IX NX := ⟨(PySem.W.mg_of X G h66), (PySem.W.mg_of X G h61), (PySem.W.mg_of X G h71), (PySem.W.mg_of X G h72), (PySem.W.mg_of X G h73), (PySem.W.mg_of X G h74), (PySem.W.mg_none_of X G h75), ⟨h76, h77, h69, h78, h79, h56, h57, h80⟩, ⟨h81, h82, h64, h83, h84, h56, h57, h85⟩, h86, h87, h88, h89, h90, h91, h92, h93, h94, h95⟩
  have bl := FunD.bindsA (ps := ["script"]) FD27 fun _ _ _ _ _ _ us hl => match us, hl with | [_], _ => rfl
  refine ⟨fd27, fun s v => bl s [v] rfl, fun base _ _ TBs => ?_⟩
  have TB : LamX.TabB base mg cA T0 := TBs (cA, T0) (by simp)
  have kii := h96
  have kib := h97
  have kbb := h98
  have kss := h99
  have ktt := h100
  have kll := h101
  have hnf := h102
  have GDim := D_check_dimension.ok (ok_dim (P := l.prog) (w := w) (base := base)  (F := D_check_dimension))
  have GLen := D_check_length.ok (ok_len (P := l.prog) (w := w) (base := base)  (F := D_check_length) (B := B))
  have GLenX := D_check_length.ok (ok_lenX (P := l.prog) (w := w) (base := base)  (F := D_check_length) (B := B) (tW := tW))
  have GStd := D_standard_key.ok (ok_std (P := l.prog) (w := w) (base := base)  (F := D_standard_key) (B := B))
  have GBef := D_comes_before.ok (ok_bef (P := l.prog) (w := w) (base := base)  (F := D_comes_before) (B := B) (GLen := GLen) (GDim := GDim) (GStd := GStd))
  have GKey := D_order_key.ok (ok_key (P := l.prog) (w := w) (base := base)  (F := D_order_key) (B := B))
  have MO : KMO l.prog w K mg base CO := fun k rk hk hrk => ⟨_, _, _, [], [], MK_CO, ok_oinit hk hrk F6 B tO, b6, .nil, fun _ => Reps.nil⟩
  have MPre := D_Order_precedes.ok (ok_pre (P := l.prog) (w := w) (base := base)  (F := D_Order_precedes) (tO := tO) (GLen := GLen) (GKey := GKey))
  have MPreX := D_Order_precedes.ok (ok_preX (P := l.prog) (w := w) (base := base)  (F := D_Order_precedes) (tO := tO) (GLenX := GLenX))
  have MOEq := D_Order___eq__.ok (ok_oeq (P := l.prog) (w := w) (base := base)  (F := D_Order___eq__) (B := B) (tO := tO))
  have MArr : KArr l.prog w K mg base CO T0 := fun k rk pls hrk hp hz => D_Order_arranged.ok (ok_arr hrk hp hz hcd TB D_Order_arranged B tO GLen GKey)
  have GTake := D__law_take.ok (ok_take (P := l.prog) (w := w) (base := base)  (F := F10) (B := B))
  have GPool := D__law_pool.ok (ok_pool (P := l.prog) (w := w) (base := base)  (F := D__law_pool) (B := B))
  have GInt := D__law_integer.ok (ok_integer (P := l.prog) (w := w) (base := base)  (F := D__law_integer) (B := B) (kii := kii) (kib := kib))
  have GSays := D__law_says.ok (ok_says (P := l.prog) (w := w) (base := base)  (F := D__law_says) (B := B) (kbb := kbb))
  have GEar := D__law_earlier.ok (ok_ear (P := l.prog) (w := w) (base := base)  (F := D__law_earlier) (B := B))
  have GMon := D__law_monomials.ok (ok_mono (P := l.prog) (w := w) (base := base)  (F := D__law_monomials) (B := B))
  have GRank := D__law_ranking.ok (ok_rank (P := l.prog) (w := w) (base := base)  (F := D__law_ranking) (B := B) (GTake := GTake))
  have GNear := D__law_near.ok (ok_near (P := l.prog) (w := w) (base := base)  (F := D__law_near) (B := B) (GTake := GTake) (GMon := GMon))
  have GWord := D__law_word.ok (ok_word (P := l.prog) (w := w) (base := base)  (F := D__law_word) (B := B) (GTake := GTake))
  have GAsc : KAsc l.prog w K mg base := fun k rk pls hrk hp hz => D__law_ascending.ok (ok_asc hrk hp hz D__law_ascending B GEar)
  have GIs := D__law_is.ok (ok_is (P := l.prog) (w := w) (base := base)  (F := D__law_is) (B := B) (tO := tO) (GInt := GInt) (kss := kss) (ktt := ktt))
  have GNoO : KNoO l.prog w K mg base := fun k rk hk hz => D__law_no_order.ok (ok_noO (k := k) (rk := rk) D__law_no_order B tO tX ⟨_, _, _, [], [], MK_CO, ok_oinitX hk hz F6 B tO tZ, b6, .nil, fun _ => Reps.nil⟩)
  have GNoP := D__law_no_preceding.ok (ok_noP (P := l.prog) (w := w) (base := base)  (F := D__law_no_preceding) (B := B) (tO := tO) (tX := tX) (MPreX := MPreX))
  have GMade := D__law_made.ok (ok_madeA (P := l.prog) (w := w) (base := base)  (F := D__law_made) (B := B) (tO := tO) (GIs := GIs) (MO := MO) (GNoO := GNoO))
  have LH : LawO l.prog w K mg base CO T0 Y := ⟨GPool, GTake, GRank, GNear, GWord, GIs, fun k rk hk hrk => D__law_unlike.ok (ok_unl hk hrk hnf D__law_unlike B tO GSays MO MOEq), GSays, GEar, GBef, MPre, MO, fun k rk pls hrk hp hz => D__law_arranges.ok (ok_arrs hrk hp hz D__law_arranges B tO GAsc MArr kll ktt), GMade, GNoP, fun k rk pls hw => D__law_no_arranging.ok (ok_noA (k := k) (rk := rk) (pls := pls) D__law_no_arranging B tO tX (D_Order_arranged.ok (ok_arrX hw D_Order_arranged tO GLenX)))⟩
  exact ok_law (P := l.prog) (w := w) (base := base)  (F := D_law) (B := B) (tO := tO) (LH := LH)
end Toy
namespace Toy
open PySem PySem.Spec PyProof.Rows L2 DL
def df1 : He5.DefA := ⟨fun _ => 103, "check_dimension", "check_dimension", defArgs sDim, defBody sDim, defScope sDim, [], []⟩
def df2 : He5.DefA := ⟨fun _ => 110, "check_length", "check_length", defArgs sLen, defBody sLen, defScope sLen, [], []⟩
def df3 : He5.DefA := ⟨fun _ => 115, "standard_key", "standard_key", defArgs sStd, defBody sStd, defScope sStd, [], []⟩
def df4 : He5.DefA := ⟨fun _ => 122, "comes_before", "comes_before", defArgs sBef, defBody sBef, defScope sBef, [], []⟩
def df5 : He5.DefA := ⟨fun _ => 127, "order_key", "order_key", defArgs sKey, defBody sKey, defScope sKey, [], []⟩
def df6 : He5.DefA := ⟨fun _ => 141, "__init__", "Order.__init__", defArgs sOInit, defBody sOInit, defScope sOInit, [], []⟩
def df7 : He5.DefA := ⟨fun _ => 148, "precedes", "Order.precedes", defArgs sPre, defBody sPre, defScope sPre, [], []⟩
def df8 : He5.DefA := ⟨fun _ => 162, "__eq__", "Order.__eq__", defArgs sOEq, defBody sOEq, defScope sOEq, [], []⟩
def df9 : He5.DefA := ⟨fun _ => 155, "arranged", "Order.arranged", defArgs sArr, defBody sArr, defScope sArr, [], []⟩
def df10 : He5.DefA := ⟨fun _ => 188, "_law_take", "_law_take", defArgs sTake, defBody sTake, defScope sTake, [], []⟩
def df11 : He5.DefA := ⟨fun _ => 181, "_law_pool", "_law_pool", defArgs sPool, defBody sPool, defScope sPool, [], []⟩
def df12 : He5.DefA := ⟨fun _ => 195, "_law_integer", "_law_integer", defArgs sInteger, defBody sInteger, defScope sInteger, [], []⟩
def df13 : He5.DefA := ⟨fun _ => 242, "_law_says", "_law_says", defArgs sSays, defBody sSays, defScope sSays, [], []⟩
def df14 : He5.DefA := ⟨fun _ => 230, "_law_earlier", "_law_earlier", defArgs sEar, defBody sEar, defScope sEar, [], []⟩
def df15 : He5.DefA := ⟨fun _ => 202, "_law_monomials", "_law_monomials", defArgs sMono, defBody sMono, defScope sMono, [], []⟩
def df16 : He5.DefA := ⟨fun _ => 209, "_law_ranking", "_law_ranking", defArgs sRank, defBody sRank, defScope sRank, [], []⟩
def df17 : He5.DefA := ⟨fun _ => 216, "_law_near", "_law_near", defArgs sNear, defBody sNear, defScope sNear, [], []⟩
def df18 : He5.DefA := ⟨fun _ => 223, "_law_word", "_law_word", defArgs sWord, defBody sWord, defScope sWord, [], []⟩
def df19 : He5.DefA := ⟨fun _ => 235, "_law_ascending", "_law_ascending", defArgs sAsc, defBody sAsc, defScope sAsc, [], []⟩
def df20 : He5.DefA := ⟨fun _ => 249, "_law_is", "_law_is", defArgs sIs, defBody sIs, defScope sIs, [], []⟩
def df21 : He5.DefA := ⟨fun _ => 256, "_law_no_order", "_law_no_order", defArgs sNoO, defBody sNoO, defScope sNoO, [], []⟩
def df22 : He5.DefA := ⟨fun _ => 263, "_law_no_arranging", "_law_no_arranging", defArgs sNoA, defBody sNoA, defScope sNoA, [], []⟩
def df23 : He5.DefA := ⟨fun _ => 270, "_law_no_preceding", "_law_no_preceding", defArgs sNoP, defBody sNoP, defScope sNoP, [], []⟩
def df24 : He5.DefA := ⟨fun _ => 277, "_law_made", "_law_made", defArgs sMade, defBody sMade, defScope sMade, [], []⟩
def df25 : He5.DefA := ⟨fun _ => 291, "_law_unlike", "_law_unlike", defArgs sUnl, defBody sUnl, defScope sUnl, [], []⟩
def df26 : He5.DefA := ⟨fun _ => 284, "_law_arranges", "_law_arranges", defArgs sArrs, defBody sArrs, defScope sArrs, [], []⟩
def df27 : He5.DefA := ⟨fun _ => 296, "law", "law", defArgs sLaw, defBody sLaw, defScope sLaw, [], []⟩
def fnS : List (List He5.DefA) := [[df1, df2, df3, df4, df5, df6, df7, df8, df9, df10, df11, df12, df13, df14, df15, df16, df17, df18, df19, df20, df21, df22, df23, df24, df25, df26, df27]]
def q_h0 (K : PySem.W.Frag) : Bool := decide (PySem.W.nsIn K mainGlobals "check_dimension" = some (some (.ref 103)))
def q_h1 (K : PySem.W.Frag) : Bool := decide (PySem.W.nsIn K mainGlobals "check_length" = some (some (.ref 110)))
def q_h2 (K : PySem.W.Frag) : Bool := decide (PySem.W.nsIn K mainGlobals "standard_key" = some (some (.ref 115)))
def q_h3 (K : PySem.W.Frag) : Bool := decide (PySem.W.nsIn K mainGlobals "comes_before" = some (some (.ref 122)))
def q_h4 (K : PySem.W.Frag) : Bool := decide (PySem.W.nsIn K mainGlobals "order_key" = some (some (.ref 127)))
def q_h5 (K : PySem.W.Frag) : Bool := decide (PySem.W.findIn K (.ref 170) "__init__" = some (some (.ref 141)))
def q_h6 (K : PySem.W.Frag) : Bool := decide (PySem.W.isFn K (.ref 141) = true)
def q_h7 (K : PySem.W.Frag) : Bool := decide (PySem.W.makesIn K 170 = true)
def q_h8 (K : PySem.W.Frag) : Bool := decide (PySem.W.keepIn K (.ref 170) = true)
def q_h9 (K : PySem.W.Frag) : Bool := decide (PySem.W.findIn K (.ref 170) "precedes" = some (some (.ref 148)))
def q_h10 (K : PySem.W.Frag) : Bool := decide (PySem.W.isFn K (.ref 148) = true)
def q_h11 (K : PySem.W.Frag) : Bool := decide (PySem.W.findIn K (.ref 170) "__eq__" = some (some (.ref 162)))
def q_h12 (K : PySem.W.Frag) : Bool := decide (PySem.W.isFn K (.ref 162) = true)
def q_h13 (K : PySem.W.Frag) : Bool := decide (PySem.W.findIn K (.ref 170) "arranged" = some (some (.ref 155)))
def q_h14 (K : PySem.W.Frag) : Bool := decide (PySem.W.isFn K (.ref 155) = true)
def q_h15 (K : PySem.W.Frag) : Bool := decide (PySem.W.nsIn K mainGlobals "_law_take" = some (some (.ref 188)))
def q_h16 (K : PySem.W.Frag) : Bool := decide (PySem.W.nsIn K mainGlobals "_law_pool" = some (some (.ref 181)))
def q_h17 (K : PySem.W.Frag) : Bool := decide (PySem.W.nsIn K mainGlobals "_law_integer" = some (some (.ref 195)))
def q_h18 (K : PySem.W.Frag) : Bool := decide (PySem.W.nsIn K mainGlobals "_law_says" = some (some (.ref 242)))
def q_h19 (K : PySem.W.Frag) : Bool := decide (PySem.W.nsIn K mainGlobals "_law_earlier" = some (some (.ref 230)))
def q_h20 (K : PySem.W.Frag) : Bool := decide (PySem.W.nsIn K mainGlobals "_law_monomials" = some (some (.ref 202)))
def q_h21 (K : PySem.W.Frag) : Bool := decide (PySem.W.nsIn K mainGlobals "_law_ranking" = some (some (.ref 209)))
def q_h22 (K : PySem.W.Frag) : Bool := decide (PySem.W.nsIn K mainGlobals "_law_near" = some (some (.ref 216)))
def q_h23 (K : PySem.W.Frag) : Bool := decide (PySem.W.nsIn K mainGlobals "_law_word" = some (some (.ref 223)))
def q_h24 (K : PySem.W.Frag) : Bool := decide (PySem.W.nsIn K mainGlobals "_law_ascending" = some (some (.ref 235)))
def q_h25 (K : PySem.W.Frag) : Bool := decide (PySem.W.nsIn K mainGlobals "_law_is" = some (some (.ref 249)))
def q_h26 (K : PySem.W.Frag) : Bool := decide (PySem.W.nsIn K mainGlobals "_law_no_order" = some (some (.ref 256)))
def q_h27 (K : PySem.W.Frag) : Bool := decide (PySem.W.nsIn K mainGlobals "_law_no_arranging" = some (some (.ref 263)))
def q_h28 (K : PySem.W.Frag) : Bool := decide (PySem.W.nsIn K mainGlobals "_law_no_preceding" = some (some (.ref 270)))
def q_h29 (K : PySem.W.Frag) : Bool := decide (PySem.W.nsIn K mainGlobals "_law_made" = some (some (.ref 277)))
def q_h30 (K : PySem.W.Frag) : Bool := decide (PySem.W.nsIn K mainGlobals "_law_unlike" = some (some (.ref 291)))
def q_h31 (K : PySem.W.Frag) : Bool := decide (PySem.W.nsIn K mainGlobals "_law_arranges" = some (some (.ref 284)))
def q_h32 (K : PySem.W.Frag) : Bool := decide (PySem.W.nsIn K mainGlobals "law" = some (some (.ref 296)))
def q_h33 (K : PySem.W.Frag) : Bool := decide (HB.codeB K 155 154 = true)
def q_h34 (K : PySem.W.Frag) : Bool := decide (PySem.W.codeHdIn K 154 150 = true)
def q_h35 (K : PySem.W.Frag) : Bool := decide (K.lookup 150 = none)
def q_h36 (K : PySem.W.Frag) : Bool := decide (PySem.W.nsIn K mainGlobals "abs" = some none)
def q_h37 (K : PySem.W.Frag) : Bool := decide (PySem.W.nsIn K mainGlobals "int" = some none)
def q_h38 (K : PySem.W.Frag) : Bool := decide (PySem.W.nsIn K mainGlobals "len" = some none)
def q_h39 (K : PySem.W.Frag) : Bool := decide (PySem.W.nsIn K mainGlobals "list" = some none)
def q_h40 (K : PySem.W.Frag) : Bool := decide (PySem.W.nsIn K mainGlobals "range" = some none)
def q_h41 (K : PySem.W.Frag) : Bool := decide (PySem.W.nsIn K mainGlobals "isinstance" = some none)
def q_h42 (K : PySem.W.Frag) : Bool := decide (PySem.W.nsIn K mainGlobals "bool" = some none)
def q_h43 (K : PySem.W.Frag) : Bool := decide (PySem.W.nsIn K mainGlobals "tuple" = some none)
def q_h44 (K : PySem.W.Frag) : Bool := decide (PySem.W.nsIn K mainGlobals "str" = some none)
def q_h45 (K : PySem.W.Frag) : Bool := decide (PySem.W.nsIn K mainGlobals "sum" = some none)
def q_h46 (K : PySem.W.Frag) : Bool := decide (PySem.W.nsIn K mainGlobals "sorted" = some none)
def q_h47 (K : PySem.W.Frag) : Bool := decide (PySem.W.nsIn K mainGlobals "Order" = some (some (.ref 170)))
def q_h48 (K : PySem.W.Frag) : Bool := decide (PySem.W.plainGet K 170 Str.empty = true)
def q_h49 (K : PySem.W.Frag) : Bool := decide (PySem.W.hasDictIn K 170 = true)
def q_h50 (K : PySem.W.Frag) : Bool := decide (PySem.W.plainOver K 170 = true)
def q_h51 (K : PySem.W.Frag) : Bool := decide (PySem.W.findIn K (.ref 170) "__setattr__" = some (some (.builtin "object.__setattr__")))
def q_h52 (K : PySem.W.Frag) : Bool := decide (PySem.W.findIn K (.ref 170) "kind" = some none)
def q_h53 (K : PySem.W.Frag) : Bool := decide (PySem.W.findIn K (.ref 170) "ranking" = some none)
def q_h54 (K : PySem.W.Frag) : Bool := decide (PySem.W.findIn K (.ref 170) "dimension" = some none)
def q_h55 (K : PySem.W.Frag) : Bool := decide (PySem.W.findIn K (.ref 170) "__class__" = some (some (.builtin "object.__class__")))
def q_h56 (K : PySem.W.Frag) : Bool := decide (PySem.W.specialIn K (.builtin "object.__class__") "__get__" = some (some (.builtin "getset_descriptor.__get__")))
def q_h57 (K : PySem.W.Frag) : Bool := decide (PySem.W.takesIn K (.builtin "object.__class__") = some true)
def q_h58 (K : PySem.W.Frag) : Bool := decide (PySem.W.mroIn K 170 (.type "object") = some true)
def q_h59 (K : PySem.W.Frag) : Bool := decide (PySem.W.kitOne K (.ref 170) (.ref 170) = some true)
def q_h60 (K : PySem.W.Frag) : Bool := decide (PySem.W.selfFirst K 170 = true)
def q_h61 (K : PySem.W.Frag) : Bool := decide (PySem.W.nsIn K mainGlobals "WrongDimension" = some (some (.ref 37)))
def q_h62 (K : PySem.W.Frag) : Bool := decide (PySem.W.keepIn K (.ref 37) = true)
def q_h63 (K : PySem.W.Frag) : Bool := decide (PySem.W.excIn K 37 [.type "ValueError", .type "Exception", .type "BaseException", .type "object"] "ValueError.__new__" = true)
def q_h64 (K : PySem.W.Frag) : Bool := decide (PySem.W.subIn K (.ref 37) (.type "BaseException") = some true)
def q_h65 (K : PySem.W.Frag) : Bool := decide (PySem.W.typeIn K (.ref 37) = some (.type "type"))
def q_h66 (K : PySem.W.Frag) : Bool := decide (PySem.W.nsIn K mainGlobals "BadOrder" = some (some (.ref 73)))
def q_h67 (K : PySem.W.Frag) : Bool := decide (PySem.W.keepIn K (.ref 73) = true)
def q_h68 (K : PySem.W.Frag) : Bool := decide (PySem.W.excIn K 73 [.type "ValueError", .type "Exception", .type "BaseException", .type "object"] "ValueError.__new__" = true)
def q_h69 (K : PySem.W.Frag) : Bool := decide (PySem.W.subIn K (.ref 73) (.type "BaseException") = some true)
def q_h70 (K : PySem.W.Frag) : Bool := decide (PySem.W.typeIn K (.ref 73) = some (.type "type"))
def q_h71 (K : PySem.W.Frag) : Bool := decide (PySem.W.nsIn K mainGlobals "SpotError" = some (some (.ref 24)))
def q_h72 (K : PySem.W.Frag) : Bool := decide (PySem.W.nsIn K mainGlobals "BadText" = some (some (.ref 94)))
def q_h73 (K : PySem.W.Frag) : Bool := decide (PySem.W.nsIn K mainGlobals "BadIndex" = some (some (.ref 49)))
def q_h74 (K : PySem.W.Frag) : Bool := decide (PySem.W.nsIn K mainGlobals "WrongCount" = some (some (.ref 61)))
def q_h75 (K : PySem.W.Frag) : Bool := decide (PySem.W.nsIn K mainGlobals "ValueError" = some none)
def q_h76 (K : PySem.W.Frag) : Bool := decide (PySem.W.findIn K (.ref 73) "__getattribute__" = some (some (.builtin "BaseException.__getattribute__")))
def q_h77 (K : PySem.W.Frag) : Bool := decide (PySem.W.findIn K (.ref 73) "__getattr__" = some none)
def q_h78 (K : PySem.W.Frag) : Bool := decide (PySem.W.hasDictIn K 73 = true)
def q_h79 (K : PySem.W.Frag) : Bool := decide (PySem.W.findIn K (.ref 73) "__class__" = some (some (.builtin "object.__class__")))
def q_h80 (K : PySem.W.Frag) : Bool := decide (PySem.W.mroIn K 73 (.type "object") = some true)
def q_h81 (K : PySem.W.Frag) : Bool := decide (PySem.W.findIn K (.ref 37) "__getattribute__" = some (some (.builtin "BaseException.__getattribute__")))
def q_h82 (K : PySem.W.Frag) : Bool := decide (PySem.W.findIn K (.ref 37) "__getattr__" = some none)
def q_h83 (K : PySem.W.Frag) : Bool := decide (PySem.W.hasDictIn K 37 = true)
def q_h84 (K : PySem.W.Frag) : Bool := decide (PySem.W.findIn K (.ref 37) "__class__" = some (some (.builtin "object.__class__")))
def q_h85 (K : PySem.W.Frag) : Bool := decide (PySem.W.mroIn K 37 (.type "object") = some true)
def q_h86 (K : PySem.W.Frag) : Bool := decide (PySem.W.exmOne K (.ref 73) (.ref 73) = some true)
def q_h87 (K : PySem.W.Frag) : Bool := decide (PySem.W.exmOne K (.ref 37) (.ref 37) = some true)
def q_h88 (K : PySem.W.Frag) : Bool := decide (PySem.W.kitOne K (.ref 73) (.ref 24) = some true)
def q_h89 (K : PySem.W.Frag) : Bool := decide (PySem.W.kitOne K (.ref 73) (.type "ValueError") = some true)
def q_h90 (K : PySem.W.Frag) : Bool := decide (PySem.W.kitOne K (.ref 73) (.ref 94) = some false)
def q_h91 (K : PySem.W.Frag) : Bool := decide (PySem.W.kitOne K (.ref 73) (.ref 37) = some false)
def q_h92 (K : PySem.W.Frag) : Bool := decide (PySem.W.kitOne K (.ref 73) (.ref 49) = some false)
def q_h93 (K : PySem.W.Frag) : Bool := decide (PySem.W.kitOne K (.ref 37) (.ref 24) = some true)
def q_h94 (K : PySem.W.Frag) : Bool := decide (PySem.W.kitOne K (.ref 37) (.ref 73) = some false)
def q_h95 (K : PySem.W.Frag) : Bool := decide (PySem.W.kitOne K (.ref 37) (.ref 61) = some false)
def q_h96 (K : PySem.W.Frag) : Bool := decide (PySem.W.kitOne K (.type "int") (.type "int") = some true)
def q_h97 (K : PySem.W.Frag) : Bool := decide (PySem.W.kitOne K (.type "int") (.type "bool") = some false)
def q_h98 (K : PySem.W.Frag) : Bool := decide (PySem.W.kitOne K (.type "bool") (.type "bool") = some true)
def q_h99 (K : PySem.W.Frag) : Bool := decide (PySem.W.kitOne K (.type "str") (.type "str") = some true)
def q_h100 (K : PySem.W.Frag) : Bool := decide (PySem.W.kitOne K (.type "tuple") (.type "tuple") = some true)
def q_h101 (K : PySem.W.Frag) : Bool := decide (PySem.W.kitOne K (.type "list") (.type "list") = some true)
def q_h102 (K : PySem.W.Frag) : Bool := decide (PySem.W.notFirst K 170 (.ref 170) = true)
def bsS : List (List (PySem.W.Frag → Bool)) := [[q_h0, q_h1, q_h2, q_h3, q_h4, q_h5, q_h6, q_h7, q_h8, q_h9, q_h10, q_h11, q_h12, q_h13, q_h14, q_h15, q_h16, q_h17, q_h18, q_h19, q_h20, q_h21, q_h22, q_h23, q_h24, q_h25, q_h26, q_h27, q_h28, q_h29], [q_h30, q_h31, q_h32, q_h33, q_h34, q_h35, q_h36, q_h37, q_h38, q_h39, q_h40, q_h41, q_h42, q_h43, q_h44, q_h45, q_h46, q_h47, q_h48, q_h49, q_h50, q_h51, q_h52, q_h53, q_h54, q_h55, q_h56, q_h57, q_h58, q_h59], [q_h60, q_h61, q_h62, q_h63, q_h64, q_h65, q_h66, q_h67, q_h68, q_h69, q_h70, q_h71, q_h72, q_h73, q_h74, q_h75, q_h76, q_h77, q_h78, q_h79, q_h80, q_h81, q_h82, q_h83, q_h84, q_h85, q_h86, q_h87, q_h88, q_h89], [q_h90, q_h91, q_h92, q_h93, q_h94, q_h95, q_h96, q_h97, q_h98, q_h99, q_h100, q_h101, q_h102]]
def asS : List Addr := [3, 6, 4, 24, 37, 49, 61, 73, 94, 103, 110, 115, 122, 127, 170, 181, 188, 195, 202, 209, 216, 223, 230, 235, 242, 249, 256, 263, 270, 277, 284, 291, 296, 0, 23, 36, 48, 60, 72, 93, 102, 109, 114, 121, 126, 169, 180, 187, 194, 201, 208, 215, 222, 229, 234, 241, 248, 255, 262, 269, 276, 283, 290, 295, 22, 25, 35, 47, 59, 71, 91, 92, 97, 98, 99, 100, 101, 104, 105, 106, 107, 108, 111, 112, 113, 116, 117, 118, 119, 120, 123, 124, 125, 141, 148, 155, 162, 167, 168, 171, 172, 175, 176, 177, 178, 179, 182, 183, 184, 185, 186, 189, 190, 191, 192, 193, 196, 197, 198, 199, 200, 203, 204, 205, 206, 207, 210, 211, 212, 213, 214, 217, 218, 219, 220, 221, 224, 225, 226, 227, 228, 231, 232, 233, 236, 237, 238, 239, 240, 243, 244, 245, 246, 247, 250, 251, 252, 253, 254, 257, 258, 259, 260, 261, 264, 265, 266, 267, 268, 271, 272, 273, 274, 275, 278, 279, 280, 281, 282, 285, 286, 287, 288, 289, 292, 293, 294, 90, 79, 140, 147, 154, 161, 166, 85, 86, 87, 88, 89, 135, 136, 137, 138, 139, 142, 143, 144, 145, 146, 149, 151, 152, 153, 156, 157, 158, 159, 160, 163, 164, 165, 2]
def tsS : List Addr := [150]
abbrev RR : PySem.W.OpenRow := PySem.W.OpenLaw.row PySem.Challenge.rw_heightsfitted_k26_orders_arrange
abbrev hk : PySem.W.Hook := HB.hookT asS tsS bsS fnS
def ob (s : PySem.W.SharedT) : He.AlD × List (Option Obj) := HB.obsT asS tsS bsS fnS (HandSHeadRun.getT s)
theorem ob_eq (s : PySem.W.SharedT) : ob s = hk.obs s.abs := HB.obsT_eq (HandSHeadRun.getT_eq s)
set_option maxHeartbeats 0 in
theorem run (w : World) : HandSHeadRun.RunEqI RR (PySem.W.view RR.prog [34]) hk ob 7000 ((["__name__", "SpotError", "WrongDimension", "BadIndex", "WrongCount", "BadOrder", "BadText", "check_dimension", "check_length", "standard_key", "comes_before", "LETTERS", "order_key", "Order", "_law_pool", "_law_take", "_law_integer", "_law_monomials", "_law_ranking", "_law_near", "_law_word", "_law_earlier", "_law_ascending", "_law_says", "_law_is", "_law_no_order", "_law_no_arranging", "_law_no_preceding", "_law_made", "_law_arranges"] : List Str) ++ (["_law_unlike"] : List Str)) w := by
  unfold HandSHeadRun.RunEqI
  kernel_rfl
end Toy
namespace Toy
open PySem PySem.Spec PyProof.Rows L2 DL
set_option maxHeartbeats 0 in
theorem facts {l : PySem.W.OpenLaw} {w : World} {K : PySem.W.Frag} {h : Heap} {mg : Str → Option Value} {fa : Addr} (X : K.In h) (G : h.Ns mainGlobals mg) (hfa : mg "law" = some (.ref fa)) (c : HB.Says bsS fnS K) :
    (∀ p ∈ [(154, 150)], PySem.W.codeHdIn K p.1 p.2 = true ∧ K.lookup p.2 = none) ∧ ∃ fd : FuncData, (∀ (s : Shared) (v : Value), BindsTo s fd ⟨[v], []⟩ [("script", v)]) ∧ ∀ base : Heap, K.In base → base.Ns mainGlobals mg → (∀ p ∈ [(154, 150)], LamX.TabB base mg p.1 p.2) → FnOk l.prog w K mg base CX0 8 fa fd ["script"] (spT K 150 lamQ (fun _ ds => preP ds) fun _ r => r = .bl true) := by
  obtain ⟨fd1, FD1⟩ := c.fun_ 0 0 (d := df1) rfl rfl
  obtain ⟨fd2, FD2⟩ := c.fun_ 0 1 (d := df2) rfl rfl
  obtain ⟨fd3, FD3⟩ := c.fun_ 0 2 (d := df3) rfl rfl
  obtain ⟨fd4, FD4⟩ := c.fun_ 0 3 (d := df4) rfl rfl
  obtain ⟨fd5, FD5⟩ := c.fun_ 0 4 (d := df5) rfl rfl
  obtain ⟨fd6, FD6⟩ := c.fun_ 0 5 (d := df6) rfl rfl
  obtain ⟨fd7, FD7⟩ := c.fun_ 0 6 (d := df7) rfl rfl
  obtain ⟨fd8, FD8⟩ := c.fun_ 0 7 (d := df8) rfl rfl
  obtain ⟨fd9, FD9⟩ := c.fun_ 0 8 (d := df9) rfl rfl
  obtain ⟨fd10, FD10⟩ := c.fun_ 0 9 (d := df10) rfl rfl
  obtain ⟨fd11, FD11⟩ := c.fun_ 0 10 (d := df11) rfl rfl
  obtain ⟨fd12, FD12⟩ := c.fun_ 0 11 (d := df12) rfl rfl
  obtain ⟨fd13, FD13⟩ := c.fun_ 0 12 (d := df13) rfl rfl
  obtain ⟨fd14, FD14⟩ := c.fun_ 0 13 (d := df14) rfl rfl
  obtain ⟨fd15, FD15⟩ := c.fun_ 0 14 (d := df15) rfl rfl
  obtain ⟨fd16, FD16⟩ := c.fun_ 0 15 (d := df16) rfl rfl
  obtain ⟨fd17, FD17⟩ := c.fun_ 0 16 (d := df17) rfl rfl
  obtain ⟨fd18, FD18⟩ := c.fun_ 0 17 (d := df18) rfl rfl
  obtain ⟨fd19, FD19⟩ := c.fun_ 0 18 (d := df19) rfl rfl
  obtain ⟨fd20, FD20⟩ := c.fun_ 0 19 (d := df20) rfl rfl
  obtain ⟨fd21, FD21⟩ := c.fun_ 0 20 (d := df21) rfl rfl
  obtain ⟨fd22, FD22⟩ := c.fun_ 0 21 (d := df22) rfl rfl
  obtain ⟨fd23, FD23⟩ := c.fun_ 0 22 (d := df23) rfl rfl
  obtain ⟨fd24, FD24⟩ := c.fun_ 0 23 (d := df24) rfl rfl
  obtain ⟨fd25, FD25⟩ := c.fun_ 0 24 (d := df25) rfl rfl
  obtain ⟨fd26, FD26⟩ := c.fun_ 0 25 (d := df26) rfl rfl
  obtain ⟨fd27, FD27⟩ := c.fun_ 0 26 (d := df27) rfl rfl
  have h0 := of_decide_eq_true (show q_h0 K = true from c.at 0 0 (b := q_h0) rfl rfl)
  have h1 := of_decide_eq_true (show q_h1 K = true from c.at 0 1 (b := q_h1) rfl rfl)
  have h2 := of_decide_eq_true (show q_h2 K = true from c.at 0 2 (b := q_h2) rfl rfl)
  have h3 := of_decide_eq_true (show q_h3 K = true from c.at 0 3 (b := q_h3) rfl rfl)
  have h4 := of_decide_eq_true (show q_h4 K = true from c.at 0 4 (b := q_h4) rfl rfl)
  have h5 := of_decide_eq_true (show q_h5 K = true from c.at 0 5 (b := q_h5) rfl rfl)
  have h6 := of_decide_eq_true (show q_h6 K = true from c.at 0 6 (b := q_h6) rfl rfl)
  have h7 := of_decide_eq_true (show q_h7 K = true from c.at 0 7 (b := q_h7) rfl rfl)
  have h8 := of_decide_eq_true (show q_h8 K = true from c.at 0 8 (b := q_h8) rfl rfl)
  have h9 := of_decide_eq_true (show q_h9 K = true from c.at 0 9 (b := q_h9) rfl rfl)
  have h10 := of_decide_eq_true (show q_h10 K = true from c.at 0 10 (b := q_h10) rfl rfl)
  have h11 := of_decide_eq_true (show q_h11 K = true from c.at 0 11 (b := q_h11) rfl rfl)
  have h12 := of_decide_eq_true (show q_h12 K = true from c.at 0 12 (b := q_h12) rfl rfl)
  have h13 := of_decide_eq_true (show q_h13 K = true from c.at 0 13 (b := q_h13) rfl rfl)
  have h14 := of_decide_eq_true (show q_h14 K = true from c.at 0 14 (b := q_h14) rfl rfl)
  have h15 := of_decide_eq_true (show q_h15 K = true from c.at 0 15 (b := q_h15) rfl rfl)
  have h16 := of_decide_eq_true (show q_h16 K = true from c.at 0 16 (b := q_h16) rfl rfl)
  have h17 := of_decide_eq_true (show q_h17 K = true from c.at 0 17 (b := q_h17) rfl rfl)
  have h18 := of_decide_eq_true (show q_h18 K = true from c.at 0 18 (b := q_h18) rfl rfl)
  have h19 := of_decide_eq_true (show q_h19 K = true from c.at 0 19 (b := q_h19) rfl rfl)
  have h20 := of_decide_eq_true (show q_h20 K = true from c.at 0 20 (b := q_h20) rfl rfl)
  have h21 := of_decide_eq_true (show q_h21 K = true from c.at 0 21 (b := q_h21) rfl rfl)
  have h22 := of_decide_eq_true (show q_h22 K = true from c.at 0 22 (b := q_h22) rfl rfl)
  have h23 := of_decide_eq_true (show q_h23 K = true from c.at 0 23 (b := q_h23) rfl rfl)
  have h24 := of_decide_eq_true (show q_h24 K = true from c.at 0 24 (b := q_h24) rfl rfl)
  have h25 := of_decide_eq_true (show q_h25 K = true from c.at 0 25 (b := q_h25) rfl rfl)
  have h26 := of_decide_eq_true (show q_h26 K = true from c.at 0 26 (b := q_h26) rfl rfl)
  have h27 := of_decide_eq_true (show q_h27 K = true from c.at 0 27 (b := q_h27) rfl rfl)
  have h28 := of_decide_eq_true (show q_h28 K = true from c.at 0 28 (b := q_h28) rfl rfl)
  have h29 := of_decide_eq_true (show q_h29 K = true from c.at 0 29 (b := q_h29) rfl rfl)
  have h30 := of_decide_eq_true (show q_h30 K = true from c.at 1 0 (b := q_h30) rfl rfl)
  have h31 := of_decide_eq_true (show q_h31 K = true from c.at 1 1 (b := q_h31) rfl rfl)
  have h32 := of_decide_eq_true (show q_h32 K = true from c.at 1 2 (b := q_h32) rfl rfl)
  have h33 := of_decide_eq_true (show q_h33 K = true from c.at 1 3 (b := q_h33) rfl rfl)
  have h34 := of_decide_eq_true (show q_h34 K = true from c.at 1 4 (b := q_h34) rfl rfl)
  have h35 := of_decide_eq_true (show q_h35 K = true from c.at 1 5 (b := q_h35) rfl rfl)
  have h36 := of_decide_eq_true (show q_h36 K = true from c.at 1 6 (b := q_h36) rfl rfl)
  have h37 := of_decide_eq_true (show q_h37 K = true from c.at 1 7 (b := q_h37) rfl rfl)
  have h38 := of_decide_eq_true (show q_h38 K = true from c.at 1 8 (b := q_h38) rfl rfl)
  have h39 := of_decide_eq_true (show q_h39 K = true from c.at 1 9 (b := q_h39) rfl rfl)
  have h40 := of_decide_eq_true (show q_h40 K = true from c.at 1 10 (b := q_h40) rfl rfl)
  have h41 := of_decide_eq_true (show q_h41 K = true from c.at 1 11 (b := q_h41) rfl rfl)
  have h42 := of_decide_eq_true (show q_h42 K = true from c.at 1 12 (b := q_h42) rfl rfl)
  have h43 := of_decide_eq_true (show q_h43 K = true from c.at 1 13 (b := q_h43) rfl rfl)
  have h44 := of_decide_eq_true (show q_h44 K = true from c.at 1 14 (b := q_h44) rfl rfl)
  have h45 := of_decide_eq_true (show q_h45 K = true from c.at 1 15 (b := q_h45) rfl rfl)
  have h46 := of_decide_eq_true (show q_h46 K = true from c.at 1 16 (b := q_h46) rfl rfl)
  have h47 := of_decide_eq_true (show q_h47 K = true from c.at 1 17 (b := q_h47) rfl rfl)
  have h48 := of_decide_eq_true (show q_h48 K = true from c.at 1 18 (b := q_h48) rfl rfl)
  have h49 := of_decide_eq_true (show q_h49 K = true from c.at 1 19 (b := q_h49) rfl rfl)
  have h50 := of_decide_eq_true (show q_h50 K = true from c.at 1 20 (b := q_h50) rfl rfl)
  have h51 := of_decide_eq_true (show q_h51 K = true from c.at 1 21 (b := q_h51) rfl rfl)
  have h52 := of_decide_eq_true (show q_h52 K = true from c.at 1 22 (b := q_h52) rfl rfl)
  have h53 := of_decide_eq_true (show q_h53 K = true from c.at 1 23 (b := q_h53) rfl rfl)
  have h54 := of_decide_eq_true (show q_h54 K = true from c.at 1 24 (b := q_h54) rfl rfl)
  have h55 := of_decide_eq_true (show q_h55 K = true from c.at 1 25 (b := q_h55) rfl rfl)
  have h56 := of_decide_eq_true (show q_h56 K = true from c.at 1 26 (b := q_h56) rfl rfl)
  have h57 := of_decide_eq_true (show q_h57 K = true from c.at 1 27 (b := q_h57) rfl rfl)
  have h58 := of_decide_eq_true (show q_h58 K = true from c.at 1 28 (b := q_h58) rfl rfl)
  have h59 := of_decide_eq_true (show q_h59 K = true from c.at 1 29 (b := q_h59) rfl rfl)
  have h60 := of_decide_eq_true (show q_h60 K = true from c.at 2 0 (b := q_h60) rfl rfl)
  have h61 := of_decide_eq_true (show q_h61 K = true from c.at 2 1 (b := q_h61) rfl rfl)
  have h62 := of_decide_eq_true (show q_h62 K = true from c.at 2 2 (b := q_h62) rfl rfl)
  have h63 := of_decide_eq_true (show q_h63 K = true from c.at 2 3 (b := q_h63) rfl rfl)
  have h64 := of_decide_eq_true (show q_h64 K = true from c.at 2 4 (b := q_h64) rfl rfl)
  have h65 := of_decide_eq_true (show q_h65 K = true from c.at 2 5 (b := q_h65) rfl rfl)
  have h66 := of_decide_eq_true (show q_h66 K = true from c.at 2 6 (b := q_h66) rfl rfl)
  have h67 := of_decide_eq_true (show q_h67 K = true from c.at 2 7 (b := q_h67) rfl rfl)
  have h68 := of_decide_eq_true (show q_h68 K = true from c.at 2 8 (b := q_h68) rfl rfl)
  have h69 := of_decide_eq_true (show q_h69 K = true from c.at 2 9 (b := q_h69) rfl rfl)
  have h70 := of_decide_eq_true (show q_h70 K = true from c.at 2 10 (b := q_h70) rfl rfl)
  have h71 := of_decide_eq_true (show q_h71 K = true from c.at 2 11 (b := q_h71) rfl rfl)
  have h72 := of_decide_eq_true (show q_h72 K = true from c.at 2 12 (b := q_h72) rfl rfl)
  have h73 := of_decide_eq_true (show q_h73 K = true from c.at 2 13 (b := q_h73) rfl rfl)
  have h74 := of_decide_eq_true (show q_h74 K = true from c.at 2 14 (b := q_h74) rfl rfl)
  have h75 := of_decide_eq_true (show q_h75 K = true from c.at 2 15 (b := q_h75) rfl rfl)
  have h76 := of_decide_eq_true (show q_h76 K = true from c.at 2 16 (b := q_h76) rfl rfl)
  have h77 := of_decide_eq_true (show q_h77 K = true from c.at 2 17 (b := q_h77) rfl rfl)
  have h78 := of_decide_eq_true (show q_h78 K = true from c.at 2 18 (b := q_h78) rfl rfl)
  have h79 := of_decide_eq_true (show q_h79 K = true from c.at 2 19 (b := q_h79) rfl rfl)
  have h80 := of_decide_eq_true (show q_h80 K = true from c.at 2 20 (b := q_h80) rfl rfl)
  have h81 := of_decide_eq_true (show q_h81 K = true from c.at 2 21 (b := q_h81) rfl rfl)
  have h82 := of_decide_eq_true (show q_h82 K = true from c.at 2 22 (b := q_h82) rfl rfl)
  have h83 := of_decide_eq_true (show q_h83 K = true from c.at 2 23 (b := q_h83) rfl rfl)
  have h84 := of_decide_eq_true (show q_h84 K = true from c.at 2 24 (b := q_h84) rfl rfl)
  have h85 := of_decide_eq_true (show q_h85 K = true from c.at 2 25 (b := q_h85) rfl rfl)
  have h86 := of_decide_eq_true (show q_h86 K = true from c.at 2 26 (b := q_h86) rfl rfl)
  have h87 := of_decide_eq_true (show q_h87 K = true from c.at 2 27 (b := q_h87) rfl rfl)
  have h88 := of_decide_eq_true (show q_h88 K = true from c.at 2 28 (b := q_h88) rfl rfl)
  have h89 := of_decide_eq_true (show q_h89 K = true from c.at 2 29 (b := q_h89) rfl rfl)
  have h90 := of_decide_eq_true (show q_h90 K = true from c.at 3 0 (b := q_h90) rfl rfl)
  have h91 := of_decide_eq_true (show q_h91 K = true from c.at 3 1 (b := q_h91) rfl rfl)
  have h92 := of_decide_eq_true (show q_h92 K = true from c.at 3 2 (b := q_h92) rfl rfl)
  have h93 := of_decide_eq_true (show q_h93 K = true from c.at 3 3 (b := q_h93) rfl rfl)
  have h94 := of_decide_eq_true (show q_h94 K = true from c.at 3 4 (b := q_h94) rfl rfl)
  have h95 := of_decide_eq_true (show q_h95 K = true from c.at 3 5 (b := q_h95) rfl rfl)
  have h96 := of_decide_eq_true (show q_h96 K = true from c.at 3 6 (b := q_h96) rfl rfl)
  have h97 := of_decide_eq_true (show q_h97 K = true from c.at 3 7 (b := q_h97) rfl rfl)
  have h98 := of_decide_eq_true (show q_h98 K = true from c.at 3 8 (b := q_h98) rfl rfl)
  have h99 := of_decide_eq_true (show q_h99 K = true from c.at 3 9 (b := q_h99) rfl rfl)
  have h100 := of_decide_eq_true (show q_h100 K = true from c.at 3 10 (b := q_h100) rfl rfl)
  have h101 := of_decide_eq_true (show q_h101 K = true from c.at 3 11 (b := q_h101) rfl rfl)
  have h102 := of_decide_eq_true (show q_h102 K = true from c.at 3 12 (b := q_h102) rfl rfl)
  refine ⟨fun p hp => ?_, ?_⟩
  · simp only [List.mem_cons, List.not_mem_nil, or_false] at hp
    rcases hp with rfl
    exact ⟨h34, h35⟩
  exact all_mk (l := l) (w := w) X G hfa FD1 FD2 FD3 FD4 FD5 FD6 FD7 FD8 FD9 FD10 FD11 FD12 FD13 FD14 FD15 FD16 FD17 FD18 FD19 FD20 FD21 FD22 FD23 FD24 FD25 FD26 FD27 h0 h1 h2 h3 h4 h5 h6 h7 h8 h9 h10 h11 h12 h13 h14 h15 h16 h17 h18 h19 h20 h21 h22 h23 h24 h25 h26 h27 h28 h29 h30 h31 h32 h33 h34 h35 h36 h37 h38 h39 h40 h41 h42 h43 h44 h45 h46 h47 h48 h49 h50 h51 h52 h53 h54 h55 h56 h57 h58 h59 h60 h61 h62 h63 h64 h65 h66 h67 h68 h69 h70 h71 h72 h73 h74 h75 h76 h77 h78 h79 h80 h81 h82 h83 h84 h85 h86 h87 h88 h89 h90 h91 h92 h93 h94 h95 h96 h97 h98 h99 h100 h101 h102
end Toy
open PySem PySem.W PySem.Calls PyProof.Rows
set_option maxRecDepth 100000 in
set_option maxHeartbeats 0 in
theorem PySem.Challenge.cw_heightsfitted_k26_orders_arrange_holds : PySem.Challenge.rw_heightsfitted_k26_orders_arrange.Holds := by
  w_on; o_law
  refine HandSHeadRun.head_imp (r := OpenLaw.row PySem.Challenge.rw_heightsfitted_k26_orders_arrange) (q := view (OpenLaw.row PySem.Challenge.rw_heightsfitted_k26_orders_arrange).prog [34]) (H := Toy.hk) (ob := Toy.ob) (M := 7000) (loose := ((["__name__", "SpotError", "WrongDimension", "BadIndex", "WrongCount", "BadOrder", "BadText", "check_dimension", "check_length", "standard_key", "comes_before", "LETTERS", "order_key", "Order", "_law_pool", "_law_take", "_law_integer", "_law_monomials", "_law_ranking", "_law_near", "_law_word", "_law_earlier", "_law_ascending", "_law_says", "_law_is", "_law_no_order", "_law_no_arranging", "_law_no_preceding", "_law_made", "_law_arranges"] : List Str) ++ (["_law_unlike"] : List Str))) (d := HandSHeadRun.topDef (OpenLaw.row PySem.Challenge.rw_heightsfitted_k26_orders_arrange).prog 34) (kwd := []) Toy.ob_eq
    Toy.run (by kernel_rfl) (by kernel_rfl) (by kernel_rfl) (by rfl) (by first | assumption | decide +kernel) (by decide +kernel) ⟨rfl, rfl, rfl, rfl, rfl, by decide +kernel⟩ ?hw ?hc
  case hw => w_witness2
  case hc =>
    refine LamX.walk_ofTsE (l := PySem.Challenge.rw_heightsfitted_k26_orders_arrange) (n := 63) (k := 8) (x := "script") (CX := fun _ => L2.CX0) rfl (by decide) (by kernel_rfl) ⟨rfl, by decide, by decide⟩ ?F (fun _ _ _ _ _ z => z)
    intro w mg fa h Y G hmg0
    obtain ⟨K, KX, c, hT⟩ := Y
    have hmg : mg ("law" : PySem.Str) = some (.ref fa) := by
      have e : (HandSHeadRun.topDef (OpenLaw.row PySem.Challenge.rw_heightsfitted_k26_orders_arrange).prog 34).name = ("law" : PySem.Str) := by kernel_rfl
      rw [← e]
      exact hmg0
    obtain ⟨hCs, fd, hb, hF⟩ := Toy.facts (l := PySem.Challenge.rw_heightsfitted_k26_orders_arrange) (w := w) KX G hmg c
    refine ⟨K, KX, fd, [(154, 150)], DL.spT K 150 Toy.lamQ (fun _ ds => Toy.preP ds) fun _ r => r = .bl true, fun p hp => hT p.2 (by have e := List.mem_singleton.mp hp; rw [e]; exact List.mem_cons_self ..), fun p hp => (hCs p hp).2, fun p hp => PySem.W.codeHd_of_K KX (hCs p hp).1, hb, fun H a ns hl _ hH hS => ?_, hF⟩
    exact DL.spT_start (hH _ (List.mem_singleton.mpr rfl)) hS ⟨ns, rfl, hl⟩

