import PyProof.Rows.All
import Wide.All
import OpenK.AllK
import Wide.FinOn
import HandS.ForMost
import HandS.IsInst
import HandS.Star
import HandS.Deep
import HandS.Flow
import HandS.Style
import HandS.Zip
import HandS.DictComp
import HandS.WideBits
import PyProof.ListStr
import HandS.Conv
import HandS.TryOnly
import PySem.Challenge.RW_phrasejoins_k21_whole_chains_and_alike_t
set_option Elab.async false
set_option linter.all false
set_option maxRecDepth 100000
set_option maxHeartbeats 4000000
namespace PU
open PySem PySem.Spec PyProof.Rows L2 StX

/-! ## data that a value stands for -/
mutual
inductive Rep (K : PySem.W.Frag) (H : Hp) : V → PyData → Prop
  | non : Rep K H .non .none
  | bl (b : Bool) : Rep K H (.bl b) (.bool b)
  | int (i : Int) : Rep K H (.int i) (.int i)
  | str (x : Str) : Rep K H (.str x) (.str x)
  | lst {a : Addr} {xs : List V} {ds : List PyData} : H a = some (.lst xs) → RepAll K H xs ds → Rep K H (.ref a) (.list ds)
  | tup {a : Addr} {xs : List V} {ds : List PyData} : SqT K H a xs → RepAll K H xs ds → Rep K H (.ref a) (.tuple ds)
inductive RepAll (K : PySem.W.Frag) (H : Hp) : List V → List PyData → Prop
  | nil : RepAll K H [] []
  | cons {v : V} {vs : List V} {d : PyData} {ds : List PyData} : Rep K H v d → RepAll K H vs ds → RepAll K H (v :: vs) (d :: ds)
end

theorem same_new {H : Hp} {p : Addr} (h : H p = none) (o : HO) : Same H (upd H p o) := fun b u q => by rw [upd_ne (ne_of_none q h)]; exact q
theorem same_sqt {K : PySem.W.Frag} {H H' : Hp} {a : Addr} {xs : List V} (e : Same H H') (h : SqT K H a xs) : SqT K H' a xs := by
  rcases h with (h | ⟨o, h⟩) | h
  · exact .inl (.inl (e _ _ h))
  · exact .inl (.inr ⟨o, e _ _ h⟩)
  · exact .inr h

mutual
theorem Rep.mono {K : PySem.W.Frag} {H H' : Hp} (e : Same H H') : ∀ (d : PyData) (v : V), Rep K H v d → Rep K H' v d
  | .none, _, h => by cases h; exact .non
  | .bool b, _, h => by cases h; exact .bl b
  | .int i, _, h => by cases h; exact .int i
  | .str x, _, h => by cases h; exact .str x
  | .list ds, _, h => by
    cases h with
    | lst hs ha => exact .lst (e _ _ hs) (RepAll.mono e ds _ ha)
  | .tuple ds, _, h => by
    cases h with
    | tup hs ha => exact .tup (same_sqt e hs) (RepAll.mono e ds _ ha)
  | .dict _, _, h => by cases h
theorem RepAll.mono {K : PySem.W.Frag} {H H' : Hp} (e : Same H H') : ∀ (ds : List PyData) (vs : List V), RepAll K H vs ds → RepAll K H' vs ds
  | [], _, h => by cases h; exact .nil
  | d :: ds, _, h => by
    cases h with
    | cons h1 h2 => exact .cons (Rep.mono e d _ h1) (RepAll.mono e ds _ h2)
end
mutual
theorem Rep.dp {K : PySem.W.Frag} {H : Hp} : ∀ (d : PyData) (v : V), Rep K H v d → Dp K H v d
  | .none, _, h => by cases h; exact .non
  | .bool b, _, h => by cases h; exact .bl b
  | .int i, _, h => by cases h; exact .int i
  | .str x, _, h => by cases h; exact .str x
  | .list ds, _, h => by
    cases h with
    | lst hs ha => exact .lst (.inl (.inl hs)) (RepAll.dp ds _ ha)
  | .tuple ds, _, h => by
    cases h with
    | tup hs ha => exact .tup hs (RepAll.dp ds _ ha)
  | .dict _, _, h => by cases h
theorem RepAll.dp {K : PySem.W.Frag} {H : Hp} : ∀ (ds : List PyData) (vs : List V), RepAll K H vs ds → DpAll K H vs ds
  | [], _, h => by cases h; exact .nil
  | d :: ds, _, h => by
    cases h with
    | cons h1 h2 => exact .cons (Rep.dp d _ h1) (RepAll.dp ds _ h2)
end

section
variable {K : PySem.W.Frag} {H H' : Hp}
theorem Rep.m (e : Same H H') {d : PyData} {v : V} (h : Rep K H v d) : Rep K H' v d := Rep.mono e d v h
theorem RepAll.m (e : Same H H') {ds : List PyData} {vs : List V} (h : RepAll K H vs ds) : RepAll K H' vs ds := RepAll.mono e ds vs h
theorem RepAll.length : ∀ {vs : List V} {ds : List PyData}, RepAll K H vs ds → vs.length = ds.length
  | _, _, .nil => rfl
  | _, _, .cons _ t => by rw [List.length_cons, List.length_cons, RepAll.length t]
theorem RepAll.append : ∀ {vs ws : List V} {ds es : List PyData}, RepAll K H vs ds → RepAll K H ws es → RepAll K H (vs ++ ws) (ds ++ es)
  | _, _, _, _, .nil, s => s
  | _, _, _, _, .cons r t, s => .cons r (RepAll.append t s)
theorem RepAll.take : ∀ {vs : List V} {ds : List PyData} (n : Nat), RepAll K H vs ds → RepAll K H (vs.take n) (ds.take n)
  | _, _, 0, _ => .nil
  | _, _, _ + 1, .nil => .nil
  | _, _, n + 1, .cons r t => .cons r (RepAll.take n t)
theorem RepAll.drop : ∀ {vs : List V} {ds : List PyData} (n : Nat), RepAll K H vs ds → RepAll K H (vs.drop n) (ds.drop n)
  | _, _, 0, r => r
  | _, _, _ + 1, .nil => .nil
  | _, _, n + 1, .cons _ t => RepAll.drop n t
theorem RepAll.reverse {vs : List V} {ds : List PyData} (h : RepAll K H vs ds) : RepAll K H vs.reverse ds.reverse := by
  induction vs generalizing ds with
  | nil => cases h; exact .nil
  | cons v vs ih =>
    cases h with
    | cons r t => rw [List.reverse_cons, List.reverse_cons]; exact RepAll.append (ih t) (.cons r .nil)
theorem RepAll.dropLast {vs : List V} {ds : List PyData} (h : RepAll K H vs ds) : RepAll K H vs.dropLast ds.dropLast := by
  rw [List.dropLast_eq_take, List.dropLast_eq_take, h.length]
  exact RepAll.take _ h
theorem RepAll.get : ∀ {vs : List V} {ds : List PyData} {i : Nat} {d : PyData}, RepAll K H vs ds → ds[i]? = some d → ∃ v, vs[i]? = some v ∧ Rep K H v d
  | _, _, _, _, .nil, e => by simp at e
  | _, _, 0, _, .cons r _, e => by simp at e; subst e; exact ⟨_, rfl, r⟩
  | _, _, i + 1, _, .cons _ t, e => by
    obtain ⟨v, h1, h2⟩ := RepAll.get (i := i) t (by simpa using e)
    exact ⟨v, by simpa using h1, h2⟩
theorem RepAll.get' : ∀ {vs : List V} {ds : List PyData} {i : Nat} {v : V}, RepAll K H vs ds → vs[i]? = some v → ∃ d, ds[i]? = some d ∧ Rep K H v d
  | _, _, _, _, .nil, e => by simp at e
  | _, _, 0, _, .cons r _, e => by simp at e; subst e; exact ⟨_, rfl, r⟩
  | _, _, i + 1, _, .cons _ t, e => by
    obtain ⟨v, h1, h2⟩ := RepAll.get' (i := i) t (by simpa using e)
    exact ⟨v, by simpa using h1, h2⟩
end

/-! ## hidden addresses -/
open Classical in
/-- the heap without the objects of a set -/
noncomputable def hide (S : Addr → Prop) (H : Hp) : Hp := fun a => if S a then none else H a
section
variable {S T : Addr → Prop} {H H' : Hp} {a : Addr} {o : HO}
theorem hide_get (h : ¬ S a) : hide S H a = H a := by unfold hide; rw [if_neg h]
theorem hide_no (h : S a) : hide S H a = none := by unfold hide; rw [if_pos h]
theorem hide_some (h : hide S H a = some o) : ¬ S a ∧ H a = some o := by
  by_cases c : S a
  · rw [hide_no c] at h; cases h
  · rw [hide_get c] at h; exact ⟨c, h⟩
theorem hide_same (e : Same H H') : Same (hide S H) (hide S H') := fun b u q => by
  obtain ⟨c, q⟩ := hide_some q
  rw [hide_get c]; exact e _ _ q
theorem hide_le : Same (hide S H) H := fun b u q => (hide_some q).2
theorem hide_anti (h : ∀ a, S a → T a) : Same (hide T H) (hide S H) := fun b u q => by
  obtain ⟨c, q⟩ := hide_some q
  rw [hide_get (fun z => c (h _ z))]; exact q
theorem hide_upd (h : S a) : hide S (upd H a o) = hide S H := by
  funext b
  by_cases c : S b
  · rw [hide_no c, hide_no c]
  · rw [hide_get c, hide_get c, upd_ne (fun e => by subst e; exact c h)]
/-- an object that is not there may be hidden, too -/
theorem hide_free {p : Addr} (h : H p = none) (e : Same H H') : Same (hide S H) (hide (fun a => S a ∨ a = p) H') := fun b u q => by
  obtain ⟨c, q⟩ := hide_some q
  rw [hide_get (fun z => z.elim c (fun e => by subst e; rw [h] at q; cases q))]
  exact e _ _ q
end

/-! ## data without lists -/
mutual
def nl : PyData → Bool
  | .list _ => false
  | .dict _ => false
  | .tuple xs => nlAll xs
  | .none => true
  | .bool _ => true
  | .int _ => true
  | .str _ => true
def nlAll : List PyData → Bool
  | [] => true
  | x :: xs => nl x && nlAll xs
end
theorem nlAll_of {ds : List PyData} (h : ∀ d ∈ ds, nl d = true) : nlAll ds = true := by
  induction ds with
  | nil => rfl
  | cons d ds ih =>
    show (nl d && nlAll ds) = true
    rw [h d List.mem_cons_self, ih (fun e he => h e (List.mem_cons_of_mem _ he))]
    rfl
mutual
/-- where only lists are hidden more -/
theorem Rep.nl {K : PySem.W.Frag} {S T : Addr → Prop} {H : Hp} (hT : ∀ a, T a → S a ∨ ∃ xs, H a = some (.lst xs)) : ∀ (d : PyData) (v : V), nl d = true → Rep K (hide S H) v d → Rep K (hide T H) v d
  | .none, _, _, h => by cases h; exact .non
  | .bool b, _, _, h => by cases h; exact .bl b
  | .int i, _, _, h => by cases h; exact .int i
  | .str x, _, _, h => by cases h; exact .str x
  | .list ds, _, n, h => by cases n
  | .tuple ds, _, n, h => by
    cases h with
    | tup hs ha =>
      refine .tup ?_ (RepAll.nl hT ds _ n ha)
      rcases hs with (h | ⟨o, h⟩) | h
      · obtain ⟨c, h⟩ := hide_some h
        refine .inl (.inl ?_)
        rw [hide_get]
        · exact h
        · intro z
          rcases hT _ z with z | ⟨ys, z⟩
          · exact c z
          · rw [z] at h; cases h
      · obtain ⟨c, h⟩ := hide_some h
        refine .inl (.inr ⟨o, ?_⟩)
        rw [hide_get]
        · exact h
        · intro z
          rcases hT _ z with z | ⟨ys, z⟩
          · exact c z
          · rw [z] at h; cases h
      · exact .inr h
  | .dict _, _, _, h => by cases h
theorem RepAll.nl {K : PySem.W.Frag} {S T : Addr → Prop} {H : Hp} (hT : ∀ a, T a → S a ∨ ∃ xs, H a = some (.lst xs)) : ∀ (ds : List PyData) (vs : List V), nlAll ds = true → RepAll K (hide S H) vs ds → RepAll K (hide T H) vs ds
  | [], _, _, h => by cases h; exact .nil
  | d :: ds, _, n, h => by
    have n' : (PU.nl d && nlAll ds) = true := n
    rw [Bool.and_eq_true] at n'
    cases h with
    | cons h1 h2 => exact .cons (Rep.nl hT d _ n'.1 h1) (RepAll.nl hT ds _ n'.2 h2)
end

/-! ## the semantic readings -/
section
variable (X : Cx)
structure sE (e : Expr) (σ : L2.St) (H : Hp) (Q : VK) : Prop where
  go : ∀ (pins : List (Addr × Obj)) (s : Shared), Inv X pins σ H s → wpAny (model X.prog X.w) X.A (eval e X.env) (EP X pins σ Q) X.xe s
structure sT (e : Expr) (σ : L2.St) (H : Hp) (Q : Bool → Hp → Prop) : Prop where
  go : ∀ (pins : List (Addr × Obj)) (s : Shared), Inv X pins σ H s → wpAny (model X.prog X.w) X.A (isTrue e X.env (eval e X.env)) (TP X pins σ Q) X.xe s
structure sW (e : Expr) (σ : L2.St) (H : Hp) (Q : Bool → Hp → Prop) : Prop where
  go : ∀ (whole : Sem Value) (pins : List (Addr × Obj)) (s : Shared), Inv X pins σ H s → wpAny (model X.prog X.w) X.A (isTrue e X.env whole) (TP X pins σ Q) X.xe s
structure sA (es : List Expr) (σ : L2.St) (H : Hp) (Q : List V → Hp → Prop) : Prop where
  go : ∀ (pos : Pos) (pins : List (Addr × Obj)) (s : Shared), Inv X pins σ H s → wpAny (model X.prog X.w) X.A (spliced (backTo pos (starEach es X.env))) (AP X pins σ Q) X.xe s
structure sS (st : Stmt) (D : Ends) (σ : L2.St) (H : Hp) : Prop where
  go : ∀ (pins : List (Addr × Obj)) (s : Shared), Inv X pins σ H s → wpAny (model X.prog X.w) X.A (exec st X.env) (SP X pins D) X.xe s
structure sSs (st : List Stmt) (D : Ends) (σ : L2.St) (H : Hp) : Prop where
  go : ∀ (pins : List (Addr × Obj)) (s : Shared), Inv X pins σ H s → wpAny (model X.prog X.w) X.A (execs st X.env) (SP X pins D) X.xe s
def sO (e : Option Expr) : TO := match e with
  | none => tNoPart
  | some e => tPart (sE X e)
structure sI (tg iter : Expr) (σ : L2.St) (H : Hp) (R : It → Hp → Prop) : Prop where
  go : ∀ (pins : List (Addr × Obj)) (s : Shared), Inv X pins σ H s →
    wpAny (model X.prog X.w) X.A (eval iter X.env) (fun v s1 => wpAny (model X.prog X.w) X.A (pyIter v) (PIE X pins σ tg R) X.xe s1) X.xe s
end
section
variable {X : Cx} {e : Expr} {es : List Expr} {st : Stmt} {sts : List Stmt} {te : TE} {tt : TT} {ta : TA} {ts : TS} {σ : L2.St} {H : Hp}
theorem pe_s : PE X e (sE X e) := ⟨fun pins s σ H Q I h => h.go pins s I⟩
theorem pt_s : PT X e (sT X e) := ⟨fun pins s σ H Q I h => h.go pins s I⟩
theorem pw_s : PW X e (sW X e) := ⟨fun whole pins s σ H Q I h => h.go whole pins s I⟩
theorem pa_s : PA X es (sA X es) := ⟨fun pos pins s σ H Q I h => h.go pos pins s I⟩
theorem ps_s : PS X st (sS X st) := ⟨fun pins s σ H D I h => h.go pins s I⟩
theorem pss_s : PSs X sts (sSs X sts) := ⟨fun pins s σ H D I h => h.go pins s I⟩
theorem pi_s {tg iter : Expr} : PI X tg iter (sI X tg iter) := ⟨fun pins s σ H R I h => h.go pins s I⟩
theorem po_s : ∀ {e : Option Expr}, PO X e (sO X e)
  | none => po_none
  | some _ => po_some pe_s
theorem sE_of {Q : VK} (h : PE X e te) (q : te σ H Q) : sE X e σ H Q := ⟨fun pins s I => h.run pins s σ H Q I q⟩
theorem sT_of {Q : Bool → Hp → Prop} (h : PT X e tt) (q : tt σ H Q) : sT X e σ H Q := ⟨fun pins s I => h.run pins s σ H Q I q⟩
theorem sW_of {Q : Bool → Hp → Prop} (h : PW X e tt) (q : tt σ H Q) : sW X e σ H Q := ⟨fun whole pins s I => h.run whole pins s σ H Q I q⟩
theorem sA_of {Q : List V → Hp → Prop} (h : PA X es ta) (q : ta σ H Q) : sA X es σ H Q := ⟨fun pos pins s I => h.run pos pins s σ H Q I q⟩
theorem sS_of {D : Ends} (h : PS X st ts) (q : ts D σ H) : sS X st D σ H := ⟨fun pins s I => h.run pins s σ H D I q⟩
theorem sSs_of {D : Ends} (h : PSs X sts ts) (q : ts D σ H) : sSs X sts D σ H := ⟨fun pins s I => h.run pins s σ H D I q⟩
end

/-! ## pure expressions -/
abbrev PEnv := List (Option PyData)
/-- the slots stand for the data; what is hidden stands there -/
structure Ok (K : PySem.W.Frag) (S : Addr → Prop) (H : Hp) (σ : L2.St) (δ : PEnv) : Prop where
  len : δ.length ≤ σ.length
  hid : ∀ a, S a → H a ≠ none
  dat : ∀ (i : Nat) (d : PyData), δ[i]? = some (some d) → ∃ v, σ[i]? = some (some v) ∧ Rep K (hide S H) v d
theorem Ok.m {K : PySem.W.Frag} {S : Addr → Prop} {H H' : Hp} {σ : L2.St} {δ : PEnv} (e : Same H H') (ok : Ok K S H σ δ) : Ok K S H' σ δ :=
  { len := ok.len
    hid := fun a h z => by
      cases q : H a with
      | none => exact ok.hid a h q
      | some o =>
        rw [e _ _ q] at z
        cases z
    dat := fun i d h => by
      obtain ⟨v, h1, h2⟩ := ok.dat i d h
      exact ⟨v, h1, h2.m (hide_same e)⟩ }
theorem Ok.no {K : PySem.W.Frag} {S : Addr → Prop} {H : Hp} {σ : L2.St} {δ : PEnv} (ok : Ok K S H σ δ) {p : Addr} (h : H p = none) : ¬ S p := fun z => ok.hid p z h

/-- what comes of a thing: data, or a new list of data -/
inductive Res where
  | dat (d : PyData)
  | fresh (ds : List PyData)
def Got (K : PySem.W.Frag) (S : Addr → Prop) (H H' : Hp) (v : V) : Res → Prop
  | .dat d => Rep K (hide S H') v d
  | .fresh ds => ∃ (p : Addr) (vs : List V), v = .ref p ∧ H p = none ∧ H' p = some (.lst vs) ∧ RepAll K (hide (fun a => S a ∨ a = p) H') vs ds
theorem Got.back {K : PySem.W.Frag} {S : Addr → Prop} {H H1 H' : Hp} {v : V} (e : Same H H1) : ∀ {r : Res}, Got K S H1 H' v r → Got K S H H' v r
  | .dat _, h => h
  | .fresh _, ⟨p, vs, h1, h2, h3, h4⟩ => ⟨p, vs, h1, e.free h2, h3, h4⟩
theorem Got.weak {K : PySem.W.Frag} {S : Addr → Prop} {H H' : Hp} {v : V} {ds : List PyData} (hs : ∀ a, S a → H a ≠ none) (h : Got K S H H' v (.fresh ds)) : Rep K (hide S H') v (.list ds) := by
  obtain ⟨p, vs, rfl, h2, h3, h4⟩ := h
  refine .lst (xs := vs) ?_ (h4.m (hide_anti fun a z => .inl z))
  rw [hide_get (fun z => hs p z h2)]
  exact h3

def EG (X : Cx) (e : Expr) (δ : PEnv) (r : Res) : Prop :=
  ∀ (S : Addr → Prop) (σ : L2.St) (H : Hp) (Q : VK), Ok X.K S H σ δ → (∀ v H', Same H H' → Got X.K S H H' v r → Q v H') → sE X e σ H Q
abbrev EV (X : Cx) (e : Expr) (δ : PEnv) (d : PyData) : Prop := EG X e δ (.dat d)
abbrev EL (X : Cx) (e : Expr) (δ : PEnv) (ds : List PyData) : Prop := EG X e δ (.fresh ds)
def ET (X : Cx) (e : Expr) (δ : PEnv) (b : Bool) : Prop :=
  ∀ (S : Addr → Prop) (σ : L2.St) (H : Hp) (Q : Bool → Hp → Prop), Ok X.K S H σ δ → (∀ H', Same H H' → Q b H') → sT X e σ H Q
def EB (X : Cx) (e : Expr) (δ : PEnv) (b : Bool) : Prop :=
  ∀ (S : Addr → Prop) (σ : L2.St) (H : Hp) (Q : Bool → Hp → Prop), Ok X.K S H σ δ → (∀ H', Same H H' → Q b H') → sW X e σ H Q
def EA (X : Cx) (es : List Expr) (δ : PEnv) (ds : List PyData) : Prop :=
  ∀ (S : Addr → Prop) (σ : L2.St) (H : Hp) (Q : List V → Hp → Prop), Ok X.K S H σ δ → (∀ vs H', Same H H' → RepAll X.K (hide S H') vs ds → Q vs H') → sA X es σ H Q

section
variable {X : Cx} {δ : PEnv} {e a b c : Expr} {es : List Expr} {pos : Pos} {d x y : PyData} {ds xs ys : List PyData}
theorem EG.ev (h : EL X e δ ds) : EV X e δ (.list ds) := fun S σ H Q ok q => h S σ H Q ok fun v H' s g => q v H' s (g.weak ok.hid)
theorem EG.cast {r r' : Res} (h : EG X e δ r) (he : r = r') : EG X e δ r' := he ▸ h
theorem EV.to {d' : PyData} (h : EV X e δ d) (he : d = d') : EV X e δ d' := he ▸ h
theorem ET.to {k k' : Bool} (h : ET X e δ k) (he : k = k') : ET X e δ k' := he ▸ h

/-! ### names and constants -/
theorem ev_var (i : Nat) {x : Str} (hd : δ[i]? = some (some d)) (hN : X.N[i]? = some x := by rfl) (hv : Vis X.env.scope x := by first | exact Or.inl rfl | exact Or.inr (Or.inl rfl) | exact Or.inr (Or.inr rfl))
    (h1 : (x == ("__debug__" : Str)) = false := by decide) (h2 : (x == ("__classdict__" : Str)) = false := by decide) : EV X (.Name x pos) δ d := fun S σ H Q ok q => by
  obtain ⟨v, h3, h4⟩ := ok.dat i d hd
  exact sE_of (pe_var hN hv h1 h2) ⟨v, h3, q v H (Same.refl H) h4⟩
theorem ev_int {i : Int} {j} : EV X (.Constant (.int i) j pos) δ (.int i) := fun S σ H Q ok q => sE_of pe_int (q _ H (Same.refl H) (.int i))
theorem ev_bl {i : Bool} {j} : EV X (.Constant (.bool i) j pos) δ (.bool i) := fun S σ H Q ok q => sE_of pe_bl (q _ H (Same.refl H) (.bl i))
theorem ev_non {j} : EV X (.Constant .none j pos) δ .none := fun S σ H Q ok q => sE_of pe_non (q _ H (Same.refl H) .non)
theorem ev_str {x : Str} {j} : EV X (.Constant (.str x) j pos) δ (.str x) := fun S σ H Q ok q => sE_of pe_str (q _ H (Same.refl H) (.str x))
/-- a constant of the module -/
theorem ev_glob {x : Str} {v : V} {u : Value} (hg : Gl X x) (hm : X.mg x = some u) (r : RelV v u) (hr : ∀ H, Rep X.K H v d) (hd : (x == ("__debug__" : Str)) = false := by decide) : EV X (.Name x pos) δ d :=
  fun S σ H Q ok q => sE_of (pe_glob hg hm r hd) (q v H (Same.refl H) (hr _))

/-! ### argument lists, displays -/
theorem ea_nil : EA X [] δ [] := fun S σ H Q ok q => sA_of pa_nil (q [] H (Same.refl H) .nil)
theorem ea_cons (ha : EV X e δ d) (hr : EA X es δ ds) (hs : starEach (e :: es) X.env = (false, eval e X.env) :: starEach es X.env := by rfl) : EA X (e :: es) δ (d :: ds) := fun S σ H Q ok q => by
  refine sA_of (pa_cons pe_s pa_s hs) ?_
  refine ha S σ H _ ok fun v H1 s1 g1 => ?_
  refine hr S σ H1 _ (ok.m s1) fun vs H2 s2 g2 => ?_
  exact q _ _ (s1.trans s2) (.cons (Rep.m (hide_same s2) g1) g2)
theorem ea_star {p : Pos} {l : List PyData} (ha : EV X e δ (.list l)) (hr : EA X es δ ds) (hs : starEach (.Starred e p :: es) X.env = (true, eval e X.env) :: starEach es X.env := by rfl) : EA X (.Starred e p :: es) δ (l ++ ds) := fun S σ H Q ok q => by
  refine sA_of (pa_star pe_s pa_s hs) ?_
  refine ha S σ H _ ok fun v H1 s1 g1 => ?_
  cases (show Rep X.K (hide S H1) v (.list l) from g1) with
  | lst h1 h2 =>
    refine ⟨_, _, rfl, .inr (SqL.of (hide_some h1).2), ?_⟩
    refine hr S σ H1 _ (ok.m s1) fun vs H2 s2 g2 => ?_
    exact q _ _ (s1.trans s2) (.append (RepAll.m (hide_same s2) h2) g2)
theorem small_len {n : Nat} (h : Nat.ble n 1000 = true) : n ≤ sizeLine := Nat.le_trans (Nat.le_of_ble_eq_true h) (by decide)
theorem ev_tup {k} (ha : EA X es δ ds) (hl : ds.length ≤ sizeLine := by exact small_len rfl) : EV X (.Tuple es k pos) δ (.tuple ds) := fun S σ H Q ok q => by
  refine sE_of (pe_tup pa_s) ?_
  refine ha S σ H _ ok fun vs H1 s1 g1 => ?_
  refine ⟨by rw [g1.length]; exact hl, fun p hp => ?_⟩
  have n := same_new hp (.tup vs)
  refine q _ _ (s1.trans n) (.tup (.inl (.inl ?_)) (RepAll.m (hide_same n) g1))
  rw [hide_get ((ok.m s1).no hp), upd_same]
theorem el_lst (ha : EA X es δ ds) (hl : ds.length ≤ sizeLine) : EL X (.List es pos) δ ds := fun S σ H Q ok q => by
  refine sE_of (pe_lst pa_s) ?_
  refine ha S σ H _ ok fun vs H1 s1 g1 => ?_
  refine ⟨by rw [g1.length]; exact hl, fun p hp => ?_⟩
  have n := same_new hp (.lst vs)
  exact q _ _ (s1.trans n) ⟨p, vs, rfl, s1.free hp, upd_same, RepAll.m (hide_free hp n) g1⟩
end
end PU
namespace PU
open PySem PySem.Spec PyProof.Rows L2 StX

/-! ## comparisons of data -/
/-- what a comparison of two data says -/
def CmpR (X : Cx) (op : CmpOp) (x y : PyData) (k : Bool) : Prop := ∃ r, OpR X (compareOp op) r ∧
  ∀ (S : Addr → Prop) (H : Hp) (v w : V) (Q : VK), Rep X.K (hide S H) v x → Rep X.K (hide S H) w y → Q (.bl k) H → r v w H Q
section
variable {X : Cx} {δ : PEnv} {e a b c : Expr} {es : List Expr} {pos : Pos} {d x y : PyData} {ds xs ys : List PyData} {k : Bool} {op : CmpOp}
theorem CmpR.to {k' : Bool} (h : CmpR X op x y k) (he : k = k') : CmpR X op x y k' := he ▸ h
theorem cm_of {r : R2} (ho : OpR X (compareOp op) r) (hr : ∀ (H : Hp) (v w : V) (Q : VK), Rep X.K H v x → Rep X.K H w y → Q (.bl k) H → r v w H Q) : CmpR X op x y k :=
  ⟨r, ho, fun S H v w Q h1 h2 q => hr H v w Q (h1.m hide_le) (h2.m hide_le) q⟩
def rEqM (K : PySem.W.Frag) : R2 := fun x y H Q => ∃ d e, Dp K H x d ∧ Dp K H y e ∧ d.canLay0 = true ∧ e.canLay0 = true ∧ min d.depth e.depth ≤ 64 ∧ Q (.bl (PyData.eqv d e)) H
def rNeM (K : PySem.W.Frag) : R2 := fun x y H Q => ∃ d e, Dp K H x d ∧ Dp K H y e ∧ d.canLay0 = true ∧ e.canLay0 = true ∧ min d.depth e.depth ≤ 64 ∧ Q (.bl (!PyData.eqv d e)) H
theorem op_eqM (hu : X.A.units + 64 < cLine) : OpR X (compareOp .Eq) (rEqM X.K) := by
  intro pins s σ H x y v u Q I rx ry h
  obtain ⟨d, e, hd, he, sd, se, sm, q⟩ := h
  obtain ⟨as, r1⟩ := Dp.reads I d x v hd rx
  obtain ⟨bs, r2⟩ := Dp.reads I e y u he ry
  exact SeqAt.compareEq_reads r1 r2 sd se (by omega) ⟨.bl _, H, I, rfl, q⟩
theorem op_neM (hu : X.A.units + 64 < cLine) : OpR X (compareOp .NotEq) (rNeM X.K) := by
  intro pins s σ H x y v u Q I rx ry h
  obtain ⟨d, e, hd, he, sd, se, sm, q⟩ := h
  obtain ⟨as, r1⟩ := Dp.reads I d x v hd rx
  obtain ⟨bs, r2⟩ := Dp.reads I e y u he ry
  exact SeqAt.compareNe_reads r1 r2 sd se (by omega) ⟨.bl _, H, I, rfl, q⟩
theorem cm_eq (hu : X.A.units + 64 < cLine) (hx : x.canLay0 = true) (hy : y.canLay0 = true) (hm : min x.depth y.depth ≤ 64) : CmpR X .Eq x y (PyData.eqv x y) :=
  cm_of (op_eqM hu) fun H v w Q h1 h2 q => ⟨x, y, Rep.dp _ _ h1, Rep.dp _ _ h2, hx, hy, hm, q⟩
theorem cm_ne (hu : X.A.units + 64 < cLine) (hx : x.canLay0 = true) (hy : y.canLay0 = true) (hm : min x.depth y.depth ≤ 64) : CmpR X .NotEq x y (!PyData.eqv x y) :=
  cm_of (op_neM hu) fun H v w Q h1 h2 q => ⟨x, y, Rep.dp _ _ h1, Rep.dp _ _ h2, hx, hy, hm, q⟩
/-- two texts, two ints -/
theorem cm_eqS {s t : Str} : CmpR X .Eq (.str s) (.str t) (decide (s = t)) := cm_of op_eq fun H v w Q h1 h2 q => by
  cases h1; cases h2
  refine ⟨rfl, ?_⟩
  by_cases c : s = t
  · subst c; rw [decide_eq_true rfl] at q ⊢; exact q
  · rw [decide_eq_false c] at q; rw [decide_eq_false (fun z => c (V.str.inj z))]; exact q
theorem cm_neS {s t : Str} : CmpR X .NotEq (.str s) (.str t) (!decide (s = t)) := cm_of op_ne fun H v w Q h1 h2 q => by
  cases h1; cases h2
  refine ⟨rfl, ?_⟩
  by_cases c : s = t
  · subst c; rw [decide_eq_true rfl] at q ⊢; exact q
  · rw [decide_eq_false c] at q; rw [decide_eq_false (fun z => c (V.str.inj z))]; exact q
theorem cm_eqI {s t : Int} : CmpR X .Eq (.int s) (.int t) (decide (s = t)) := cm_of op_eq fun H v w Q h1 h2 q => by
  cases h1; cases h2
  refine ⟨rfl, ?_⟩
  by_cases c : s = t
  · subst c; rw [decide_eq_true rfl] at q ⊢; exact q
  · rw [decide_eq_false c] at q; rw [decide_eq_false (fun z => c (V.int.inj z))]; exact q
theorem cm_neI {s t : Int} : CmpR X .NotEq (.int s) (.int t) (!decide (s = t)) := cm_of op_ne fun H v w Q h1 h2 q => by
  cases h1; cases h2
  refine ⟨rfl, ?_⟩
  by_cases c : s = t
  · subst c; rw [decide_eq_true rfl] at q ⊢; exact q
  · rw [decide_eq_false c] at q; rw [decide_eq_false (fun z => c (V.int.inj z))]; exact q
theorem cm_eqB {s t : Bool} : CmpR X .Eq (.bool s) (.bool t) (decide (s = t)) := cm_of op_eq fun H v w Q h1 h2 q => by
  cases h1; cases h2
  refine ⟨rfl, ?_⟩
  by_cases c : s = t
  · subst c; rw [decide_eq_true rfl] at q ⊢; exact q
  · rw [decide_eq_false c] at q; rw [decide_eq_false (fun z => c (V.bl.inj z))]; exact q
theorem cm_lt {i j : Int} : CmpR X .Lt (.int i) (.int j) (decide (i < j)) := cm_of op_lt fun H v w Q h1 h2 q => by cases h1; cases h2; exact ⟨i, j, rfl, rfl, q⟩
theorem cm_le {i j : Int} : CmpR X .LtE (.int i) (.int j) (decide (i ≤ j)) := cm_of op_le fun H v w Q h1 h2 q => by cases h1; cases h2; exact ⟨i, j, rfl, rfl, q⟩
theorem cm_gt {i j : Int} : CmpR X .Gt (.int i) (.int j) (decide (j < i)) := cm_of op_gt fun H v w Q h1 h2 q => by cases h1; cases h2; exact ⟨i, j, rfl, rfl, q⟩
theorem cm_ge {i j : Int} : CmpR X .GtE (.int i) (.int j) (decide (j ≤ i)) := cm_of op_ge fun H v w Q h1 h2 q => by cases h1; cases h2; exact ⟨i, j, rfl, rfl, q⟩
def isNone : PyData → Bool
  | .none => true
  | _ => false
theorem cm_isN : CmpR X .Is x .none (isNone x) := cm_of op_isN fun H v w Q h1 h2 q => by
  cases h2
  refine ⟨rfl, ?_⟩
  cases h1 <;> exact q
theorem cm_notN : CmpR X .IsNot x .none (!isNone x) := cm_of op_notN fun H v w Q h1 h2 q => by
  cases h2
  refine ⟨rfl, ?_⟩
  cases h1 <;> exact q
theorem cm_isB {s t : Bool} : CmpR X .Is (.bool s) (.bool t) (decide (s = t)) := cm_of op_isBl fun H v w Q h1 h2 q => by cases h1; cases h2; exact ⟨s, t, rfl, rfl, q⟩
theorem cm_notB {s t : Bool} : CmpR X .IsNot (.bool s) (.bool t) (!decide (s = t)) := cm_of op_notBl fun H v w Q h1 h2 q => by cases h1; cases h2; exact ⟨s, t, rfl, rfl, q⟩
/-- a text in a tuple of texts -/
def strsD (l : List Str) : List PyData := l.map PyData.str
theorem rep_strs {K : PySem.W.Frag} {H : Hp} : ∀ {l : List Str} {vs : List V}, RepAll K H vs (strsD l) → vs = l.map V.str
  | [], _, h => by cases h; rfl
  | s :: l, _, h => by
    cases h with
    | cons h1 h2 => cases h1; rw [rep_strs h2]; rfl
theorem strs_rep {K : PySem.W.Frag} {H : Hp} : ∀ (l : List Str), RepAll K H (l.map V.str) (strsD l)
  | [] => .nil
  | s :: l => .cons (.str s) (strs_rep l)
theorem flat_strs : ∀ l : List Str, (l.map V.str).all flatV = true
  | [] => rfl
  | s :: l => by rw [List.map_cons, List.all_cons, flat_strs l] <;> rfl
theorem inV_strs (s : Str) : ∀ l : List Str, inV (.str s) (l.map V.str) = decide (s ∈ l)
  | [] => rfl
  | t :: l => by
    have ih := inV_strs s l
    unfold inV at ih ⊢
    rw [List.map_cons, List.any_cons, ih]
    show (t == s || decide (s ∈ l)) = decide (s ∈ t :: l)
    by_cases c : s = t
    · subst c; simp
    · have c' : (t == s) = false := beq_eq_false_iff_ne.mpr fun z => c z.symm
      rw [c', Bool.false_or]
      simp [c]
theorem cm_inT {s : Str} {l : List Str} : CmpR X .In (.str s) (.tuple (strsD l)) (decide (s ∈ l)) := cm_of op_in_seq fun H v w Q h1 h2 q => by
  cases h1
  cases h2 with
  | tup h3 h4 =>
    have e := rep_strs h4
    subst e
    exact ⟨_, _, rfl, .inr h3, rfl, flat_strs l, by rw [if_neg Bool.false_ne_true, inV_strs]; exact q⟩
theorem cm_notInT {s : Str} {l : List Str} : CmpR X .NotIn (.str s) (.tuple (strsD l)) (!decide (s ∈ l)) := cm_of op_notIn_seq fun H v w Q h1 h2 q => by
  cases h1
  cases h2 with
  | tup h3 h4 =>
    have e := rep_strs h4
    subst e
    exact ⟨_, _, rfl, .inr h3, rfl, flat_strs l, by rw [if_pos rfl, inV_strs]; exact q⟩
theorem cm_inL {s : Str} {l : List Str} : CmpR X .In (.str s) (.list (strsD l)) (decide (s ∈ l)) := cm_of op_in_seq fun H v w Q h1 h2 q => by
  cases h1
  cases h2 with
  | lst h3 h4 =>
    have e := rep_strs h4
    subst e
    exact ⟨_, _, rfl, .inl (SqL.of h3), rfl, flat_strs l, by rw [if_neg Bool.false_ne_true, inV_strs]; exact q⟩
theorem cm_notInL {s : Str} {l : List Str} : CmpR X .NotIn (.str s) (.list (strsD l)) (!decide (s ∈ l)) := cm_of op_notIn_seq fun H v w Q h1 h2 q => by
  cases h1
  cases h2 with
  | lst h3 h4 =>
    have e := rep_strs h4
    subst e
    exact ⟨_, _, rfl, .inl (SqL.of h3), rfl, flat_strs l, by rw [if_pos rfl, inV_strs]; exact q⟩
/-- a sign in a text -/
theorem cm_inS {c : Nat} {z : Str} : CmpR X .In (.str ⟨#[c]⟩) (.str z) (decide (c ∈ z.cps.toList)) := cm_of op_in_sign fun H v w Q h1 h2 q => by cases h1; cases h2; exact ⟨c, z, rfl, rfl, q⟩
/-- a datum in a list of data -/
def rInM (K : PySem.W.Frag) : R2 := fun x y H Q => ∃ d ds, Dp K H x d ∧ Dp K H y (.list ds) ∧ d.canLay0 = true ∧ PyData.canLayAll0 ds = true ∧ d.depth ≤ 64 ∧ Q (.bl (ds.any fun z => PyData.eqv z d)) H
theorem op_inM (hu : X.A.units + 65 < cLine) : OpR X (compareOp .In) (rInM X.K) := by
  intro pins s σ H x y v u Q I rx ry h
  obtain ⟨d, ds, hd, he, sd, se, sm, q⟩ := h
  obtain ⟨as, r1⟩ := Dp.reads I d x v hd rx
  obtain ⟨bs, r2⟩ := Dp.reads I (.list ds) y u he ry
  exact SeqAt.in_list_reads r2 r1 se sd (by omega) ⟨.bl _, H, I, rfl, q⟩
theorem cm_inD (hu : X.A.units + 65 < cLine) (hx : x.canLay0 = true) (hy : PyData.canLayAll0 ds = true) (hm : x.depth ≤ 64) : CmpR X .In x (.list ds) (ds.any fun z => PyData.eqv z x) :=
  cm_of (op_inM hu) fun H v w Q h1 h2 q => ⟨x, ds, Rep.dp _ _ h1, Rep.dp _ _ h2, hx, hy, hm, q⟩

theorem ev_cmp (hc : CmpR X op x y k) (ha : EV X a δ x) (hb : EV X b δ y) (hm : behindInMarks op b = false := by first | exact nomark _ | rfl) : EV X (.Compare a [op] [b] pos) δ (.bool k) := fun S σ H Q ok q => by
  obtain ⟨r, ho, hr⟩ := hc
  refine sE_of (pe_cmpR ho pe_s pe_s hm) ?_
  refine ha S σ H _ ok fun v H1 s1 g1 => ?_
  refine hb S σ H1 _ (ok.m s1) fun w H2 s2 g2 => ?_
  exact hr S H2 v w _ (Rep.m (hide_same s2) g1) g2 (q _ _ (s1.trans s2) (.bl k))
theorem et_cmp (hc : CmpR X op x y k) (ha : EV X a δ x) (hb : EV X b δ y) (hm : behindInMarks op b = false := by first | exact nomark _ | rfl) : ET X (.Compare a [op] [b] pos) δ k := fun S σ H Q ok q => by
  obtain ⟨r, ho, hr⟩ := hc
  refine sT_of (pt_cmpR ho pe_s pe_s hm) ?_
  refine ha S σ H _ ok fun v H1 s1 g1 => ?_
  refine hb S σ H1 _ (ok.m s1) fun w H2 s2 g2 => ?_
  exact hr S H2 v w _ (Rep.m (hide_same s2) g1) g2 ⟨k, rfl, q _ (s1.trans s2)⟩
/-- a < b < c, of ints, as a value -/
theorem ev_chain {op' : CmpOp} {z : PyData} {k' k2 : Bool} (h1 : CmpR X op x y k) (h2 : CmpR X op' y z k') (ha : EV X a δ x) (hb : EV X b δ y) (hc : EV X c δ z) (hk : (k && k') = k2 := by rfl) (hm : lastMarks [op, op'] [b, c] = false := by with_unfolding_all rfl) : EV X (.Compare a [op, op'] [b, c] pos) δ (.bool k2) := fun S σ H Q ok q => by
  subst hk
  obtain ⟨r, ho, hr⟩ := h1
  obtain ⟨r', ho', hr'⟩ := h2
  refine sE_of (pe_chain ho ho' pe_s pe_s pe_s hm) ?_
  refine ha S σ H _ ok fun v H1 s1 g1 => ?_
  refine hb S σ H1 _ (ok.m s1) fun w H2 s2 g2 => ?_
  refine hr S H2 v w _ (Rep.m (hide_same s2) g1) g2 ⟨k, rfl, ?_⟩
  cases k with
  | false => exact iteF (q _ _ (s1.trans s2) (.bl false))
  | true =>
    refine iteT ?_
    refine hc S σ H2 _ ((ok.m s1).m s2) fun u H3 s3 g3 => ?_
    exact hr' S H3 w u _ (Rep.m (hide_same s3) g2) g3 (q _ _ ((s1.trans s2).trans s3) (.bl k'))

/-! ## tests, and, or, not, if -/
theorem et_val (h : EV X e δ (.bool k)) (he : ∀ whole, isTrue e X.env whole = (do let v ← whole; standAt e.pos; holding [v] (truthy v)) := by intro _; rfl) : ET X e δ k := fun S σ H Q ok q => by
  refine sT_of (pt_val pe_s he) ?_
  refine h S σ H _ ok fun v H1 s1 g1 => ?_
  cases (show Rep X.K (hide S H1) v (.bool k) from g1)
  exact ⟨k, rfl, q _ s1⟩
theorem et_not {k' : Bool} (h : ET X e δ k) (hk : (!k) = k' := by rfl) : ET X (.UnaryOp .Not e pos) δ k' := fun S σ H Q ok q => by
  subst hk
  refine sT_of (pt_not pt_s) ?_
  exact h S σ H _ ok fun H1 s1 => q _ s1
theorem et_bw (h : EB X e δ k) : ET X e δ k := fun S σ H Q ok q => sT_of pw_s.pt (h S σ H Q ok q)
theorem eb_and1 (h : ET X a δ k) : EB X (.BoolOp .And [a] pos) δ k := fun S σ H Q ok q => sW_of (pw_and1 pt_s) (h S σ H Q ok q)
theorem eb_or1 (h : ET X a δ k) : EB X (.BoolOp .Or [a] pos) δ k := fun S σ H Q ok q => sW_of (pw_or1 pt_s) (h S σ H Q ok q)
theorem eb_and {rest : List Expr} {k' : Bool} (h : ET X a δ k) (h2 : k = true → EB X (.BoolOp .And (b :: rest) pos) δ k') : EB X (.BoolOp .And (a :: b :: rest) pos) δ (k && k') := fun S σ H Q ok q => by
  refine sW_of (pw_and pt_s pw_s) ?_
  refine h S σ H _ ok fun H1 s1 => ?_
  cases k with
  | false => exact iteF (q _ s1)
  | true => exact iteT (h2 rfl S σ H1 _ (ok.m s1) fun H2 s2 => q _ (s1.trans s2))
theorem eb_or {rest : List Expr} {k' : Bool} (h : ET X a δ k) (h2 : k = false → EB X (.BoolOp .Or (b :: rest) pos) δ k') : EB X (.BoolOp .Or (a :: b :: rest) pos) δ (k || k') := fun S σ H Q ok q => by
  refine sW_of (pw_or pt_s pw_s) ?_
  refine h S σ H _ ok fun H1 s1 => ?_
  cases k with
  | true => exact iteT (q _ s1)
  | false => exact iteF (h2 rfl S σ H1 _ (ok.m s1) fun H2 s2 => q _ (s1.trans s2))
theorem eb_orT {rest : List Expr} (h : ET X a δ true) : EB X (.BoolOp .Or (a :: b :: rest) pos) δ true := eb_or (k' := true) h fun z => by cases z
theorem eb_orF {rest : List Expr} {k' : Bool} (h : ET X a δ false) (h2 : EB X (.BoolOp .Or (b :: rest) pos) δ k') : EB X (.BoolOp .Or (a :: b :: rest) pos) δ k' := eb_or (k := false) h fun _ => h2
theorem eb_andF {rest : List Expr} (h : ET X a δ false) : EB X (.BoolOp .And (a :: b :: rest) pos) δ false := eb_and (k := false) (k' := true) h fun z => by cases z
theorem eb_andT {rest : List Expr} {k' : Bool} (h : ET X a δ true) (h2 : EB X (.BoolOp .And (b :: rest) pos) δ k') : EB X (.BoolOp .And (a :: b :: rest) pos) δ k' := eb_and (k := true) h fun _ => h2
/-- as values -/
theorem ev_one {op : BoolOp} (h : EV X a δ d) : EV X (.BoolOp op [a] pos) δ d := fun S σ H Q ok q => sE_of (pe_one pe_s) (h S σ H Q ok q)
theorem ev_and {rest : List Expr} {k' : Bool} (h : EV X a δ (.bool k)) (h2 : k = true → EV X (.BoolOp .And (b :: rest) pos) δ (.bool k')) : EV X (.BoolOp .And (a :: b :: rest) pos) δ (.bool (k && k')) := fun S σ H Q ok q => by
  refine sE_of (pe_and pe_s pe_s) ?_
  refine h S σ H _ ok fun v H1 s1 g1 => ?_
  cases (show Rep X.K (hide S H1) v (.bool k) from g1)
  refine ⟨k, rfl, ?_⟩
  cases k with
  | false => exact iteF (q _ _ s1 (.bl false))
  | true => exact iteT (h2 rfl S σ H1 _ (ok.m s1) fun v H2 s2 g2 => q _ _ (s1.trans s2) g2)
theorem ev_andT {rest : List Expr} (h : EV X a δ (.bool true)) (h2 : EV X (.BoolOp .And (b :: rest) pos) δ (.bool k)) : EV X (.BoolOp .And (a :: b :: rest) pos) δ (.bool k) := ev_and (k := true) h fun _ => h2
theorem ev_andF {rest : List Expr} (h : EV X a δ (.bool false)) : EV X (.BoolOp .And (a :: b :: rest) pos) δ (.bool false) := ev_and (k := false) (k' := true) h fun z => by cases z
theorem ev_or {rest : List Expr} {k' : Bool} (h : EV X a δ (.bool k)) (h2 : k = false → EV X (.BoolOp .Or (b :: rest) pos) δ (.bool k')) : EV X (.BoolOp .Or (a :: b :: rest) pos) δ (.bool (k || k')) := fun S σ H Q ok q => by
  refine sE_of (pe_or pe_s pe_s) ?_
  refine h S σ H _ ok fun v H1 s1 g1 => ?_
  cases (show Rep X.K (hide S H1) v (.bool k) from g1)
  refine ⟨k, rfl, ?_⟩
  cases k with
  | true => exact iteT (q _ _ s1 (.bl true))
  | false => exact iteF (h2 rfl S σ H1 _ (ok.m s1) fun v H2 s2 g2 => q _ _ (s1.trans s2) g2)
theorem ev_not {k' : Bool} (h : EV X a δ (.bool k)) (hk : (!k) = k' := by rfl) : EV X (.UnaryOp .Not a pos) δ (.bool k') := fun S σ H Q ok q => by
  subst hk
  refine sE_of (pe_not pe_s) ?_
  refine h S σ H _ ok fun v H1 s1 g1 => ?_
  cases (show Rep X.K (hide S H1) v (.bool k) from g1)
  exact ⟨k, rfl, q _ _ s1 (.bl _)⟩
theorem eg_if {r : Res} (h : ET X c δ k) (h1 : k = true → EG X a δ r) (h2 : k = false → EG X b δ r) : EG X (.IfExp c a b pos) δ r := fun S σ H Q ok q => by
  refine sE_of (pe_ifExp pt_s pe_s pe_s) ?_
  refine h S σ H _ ok fun H1 s1 => ?_
  cases k with
  | true => exact iteT (h1 rfl S σ H1 _ (ok.m s1) fun v H2 s2 g2 => q _ _ (s1.trans s2) (g2.back s1))
  | false => exact iteF (h2 rfl S σ H1 _ (ok.m s1) fun v H2 s2 g2 => q _ _ (s1.trans s2) (g2.back s1))
theorem eg_ifT {r : Res} (h : ET X c δ true) (h1 : EG X a δ r) : EG X (.IfExp c a b pos) δ r := eg_if h (fun _ => h1) fun z => by cases z
theorem eg_ifF {r : Res} (h : ET X c δ false) (h1 : EG X b δ r) : EG X (.IfExp c a b pos) δ r := eg_if h (fun z => by cases z) fun _ => h1
/-- both ways are walked, the answer picks -/
theorem ev_ifB {d' : PyData} (h : ET X c δ k) (h1 : k = true → EV X a δ d) (h2 : k = false → EV X b δ d') : EV X (.IfExp c a b pos) δ (if k = true then d else d') :=
  eg_if h (fun z => by rw [if_pos z]; exact h1 z) fun z => by rw [if_neg (by rw [z]; exact Bool.false_ne_true)]; exact h2 z

/-! ## numbers -/
/-- what an operator says of two data -/
def BinR (X : Cx) (op : Operator) (x y : PyData) (r : Res) : Prop := ∃ t, OpR X (binaryOp op) t ∧
  ∀ (S : Addr → Prop) (H : Hp) (v w : V) (Q : VK), (∀ a, S a → H a ≠ none) → Rep X.K (hide S H) v x → Rep X.K (hide S H) w y → (∀ z H', Same H H' → Got X.K S H H' z r → Q z H') → t v w H Q
theorem eg_bin {bop : Operator} {r : Res} (hc : BinR X bop x y r) (ha : EV X a δ x) (hb : EV X b δ y) : EG X (.BinOp a bop b pos) δ r := fun S σ H Q ok q => by
  obtain ⟨t, ho, hr⟩ := hc
  refine sE_of (pe_op ho pe_s pe_s) ?_
  refine ha S σ H _ ok fun v H1 s1 g1 => ?_
  refine hb S σ H1 _ (ok.m s1) fun w H2 s2 g2 => ?_
  exact hr S H2 v w _ ((ok.m s1).m s2).hid (Rep.m (hide_same s2) g1) g2 fun z H' s3 g3 => q _ _ ((s1.trans s2).trans s3) (g3.back (s1.trans s2))
theorem br_I0 {bop : Operator} {i j : Int} {g : Int → Int → Int} (ho : OpR X (binaryOp bop) (rI0 fun i j => .int (g i j))) : BinR X bop (.int i) (.int j) (.dat (.int (g i j))) :=
  ⟨_, ho, fun S H v w Q _ h1 h2 q => by cases h1; cases h2; exact ⟨i, j, rfl, rfl, q _ H (Same.refl H) (.int _)⟩⟩
theorem br_I {bop : Operator} {i j : Int} {C : Int → Int → Prop} {g : Int → Int → Int} (ho : OpR X (binaryOp bop) (rI C fun i j => .int (g i j))) (hc : C i j) : BinR X bop (.int i) (.int j) (.dat (.int (g i j))) :=
  ⟨_, ho, fun S H v w Q _ h1 h2 q => by cases h1; cases h2; exact ⟨i, j, rfl, rfl, hc, q _ H (Same.refl H) (.int _)⟩⟩
theorem br_add {i j : Int} : BinR X .Add (.int i) (.int j) (.dat (.int (i + j))) := br_I0 op_add
theorem br_sub {i j : Int} : BinR X .Sub (.int i) (.int j) (.dat (.int (i - j))) := br_I0 op_sub
theorem br_mul {i j : Int} (h : CMul i j) : BinR X .Mult (.int i) (.int j) (.dat (.int (i * j))) := br_I op_mul h
theorem br_mod {i j : Int} (h : 0 < j) : BinR X .Mod (.int i) (.int j) (.dat (.int (i % j))) := br_I (C := fun _ j => 0 < j) op_mod h
theorem br_fdiv {i j : Int} (h : CDiv i j) : BinR X .FloorDiv (.int i) (.int j) (.dat (.int (i / j))) := br_I op_fdiv h
theorem br_pow {i j : Int} (h : CPow i j) : BinR X .Pow (.int i) (.int j) (.dat (.int (i ^ j.toNat))) := br_I op_pow h
theorem br_cat (hl : xs.length + ys.length ≤ sizeLine) : BinR X .Add (.list xs) (.list ys) (.fresh (xs ++ ys)) :=
  ⟨_, op_cat, fun S H v w Q hs h1 h2 q => by
    cases h1 with
    | lst a1 a2 =>
      cases h2 with
      | lst b1 b2 =>
        refine ⟨_, _, _, _, rfl, rfl, (hide_some a1).2, (hide_some b1).2, by rw [a2.length, b2.length]; exact hl, fun p hp => ?_⟩
        have n := same_new hp
        exact q _ _ (n _) ⟨p, _, rfl, hp, upd_same, RepAll.m (hide_free hp (n _)) (a2.append b2)⟩⟩
theorem br_catS {s t : Str} (hl : s.length + t.length ≤ sizeLine) : BinR X .Add (.str s) (.str t) (.dat (.str (s ++ t))) :=
  ⟨_, op_add_str, fun S H v w Q _ h1 h2 q => by cases h1; cases h2; exact ⟨s, t, rfl, rfl, hl, q _ H (Same.refl H) (.str _)⟩⟩
theorem ev_neg {i : Int} (ha : EV X a δ (.int i)) : EV X (.UnaryOp .USub a pos) δ (.int (-i)) := fun S σ H Q ok q => by
  refine sE_of (pe_un un_neg pe_s) ?_
  refine ha S σ H _ ok fun v H1 s1 g1 => ?_
  cases (show Rep X.K (hide S H1) v (.int i) from g1)
  exact ⟨i, rfl, q _ _ s1 (.int _)⟩

/-! ## items, slices -/
theorem ev_ixL {i : Int} (ha : EV X a δ (.list ds)) (hb : EV X b δ (.int i)) (hi : atI ds i = some d) (hs : PlainIx b := by exact fun _ _ => rfl) : EV X (.Subscript a b pos) δ d := fun S σ H Q ok q => by
  refine sE_of (pe_ix ix_list pe_s pe_s hs) ?_
  refine ha S σ H _ ok fun v H1 s1 g1 => ?_
  refine hb S σ H1 _ (ok.m s1) fun w H2 s2 g2 => ?_
  cases (show Rep X.K (hide S H2) w (.int i) from g2)
  cases (show Rep X.K (hide S H2) v (.list ds) from Rep.m (hide_same s2) g1) with
  | lst h1 h2 =>
    obtain ⟨j, e1, e2, e3, e4, e5⟩ := atI_get hi
    obtain ⟨z, f1, f2⟩ := h2.get e2
    refine ⟨_, _, i, z, rfl, rfl, SqL.of (hide_some h1).2, ?_, q _ _ (s1.trans s2) f2⟩
    unfold atI at hi ⊢
    rw [h2.length]
    cases c : ixN ds.length i with
    | none => rw [c] at hi; cases hi
    | some m =>
      have := (ixN_seq c).1
      rw [e1] at this
      cases this
      exact f1
theorem ev_ixT {i : Int} (ha : EV X a δ (.tuple ds)) (hb : EV X b δ (.int i)) (hi : atI ds i = some d) (hs : PlainIx b := by exact fun _ _ => rfl) : EV X (.Subscript a b pos) δ d := fun S σ H Q ok q => by
  refine sE_of (pe_ix ix_tup pe_s pe_s hs) ?_
  refine ha S σ H _ ok fun v H1 s1 g1 => ?_
  refine hb S σ H1 _ (ok.m s1) fun w H2 s2 g2 => ?_
  cases (show Rep X.K (hide S H2) w (.int i) from g2)
  cases (show Rep X.K (hide S H2) v (.tuple ds) from Rep.m (hide_same s2) g1) with
  | tup h1 h2 =>
    obtain ⟨j, e1, e2, e3, e4, e5⟩ := atI_get hi
    obtain ⟨z, f1, f2⟩ := h2.get e2
    refine ⟨_, _, i, z, rfl, rfl, same_sqt hide_le h1, ?_, q _ _ (s1.trans s2) f2⟩
    unfold atI at hi ⊢
    rw [h2.length]
    cases c : ixN ds.length i with
    | none => rw [c] at hi; cases hi
    | some m =>
      have := (ixN_seq c).1
      rw [e1] at this
      cases this
      exact f1
theorem ev_ixS {i : Int} {z : Str} {c : Nat} (ha : EV X a δ (.str z)) (hb : EV X b δ (.int i)) (hz : z.length ≤ sizeLine) (hi : atI z.cps.toList i = some c) (hs : PlainIx b := by exact fun _ _ => rfl) : EV X (.Subscript a b pos) δ (.str ⟨#[c]⟩) := fun S σ H Q ok q => by
  refine sE_of (pe_ix ix_str pe_s pe_s hs) ?_
  refine ha S σ H _ ok fun v H1 s1 g1 => ?_
  refine hb S σ H1 _ (ok.m s1) fun w H2 s2 g2 => ?_
  cases (show Rep X.K (hide S H2) w (.int i) from g2)
  cases (show Rep X.K (hide S H1) v (.str z) from g1)
  exact ⟨z, i, c, rfl, rfl, hz, hi, q _ _ (s1.trans s2) (.str _)⟩
/-- an end of a slice -/
def EO (X : Cx) (e : Option Expr) (δ : PEnv) (o : Option Int) : Prop :=
  ∀ (S : Addr → Prop) (σ : L2.St) (H : Hp) (Q : Option Int → Hp → Prop), Ok X.K S H σ δ → (∀ H', Same H H' → Q o H') → sO X e σ H Q
theorem eo_none : EO X none δ none := fun S σ H Q ok q => q H (Same.refl H)
theorem eo_some {i : Int} (h : EV X e δ (.int i)) : EO X (some e) δ (some i) := fun S σ H Q ok q => by
  show sE X e σ H _
  refine h S σ H _ ok fun v H1 s1 g1 => ?_
  cases (show Rep X.K (hide S H1) v (.int i) from g1)
  exact ⟨i, rfl, q _ s1⟩
def cutD {α : Type} (xs : List α) (lo hi : Option Int) : List α := (xs.drop (HT.sIx xs.length 0 lo)).take (HT.sIx xs.length xs.length hi - HT.sIx xs.length 0 lo)
theorem rep_cut {K : PySem.W.Frag} {H : Hp} {vs : List V} (h : RepAll K H vs ds) (lo hi : Option Int) : RepAll K H (cutV vs lo hi) (cutD ds lo hi) := by
  unfold cutV cutD
  rw [h.length]
  exact RepAll.take _ (RepAll.drop _ h)
theorem el_slice {lo hi : Option Expr} {l h : Option Int} {p2 : Pos} (ha : EV X a δ (.list ds)) (hl : EO X lo δ l) (hh : EO X hi δ h) {es : List PyData} (he : cutD ds l h = es := by rfl) : EL X (.Subscript a (.Slice lo hi none p2) pos) δ es := fun S σ H Q ok q => by
  subst he
  refine sE_of (pe_slice sl_list pe_s po_s po_s) ?_
  refine ha S σ H _ ok fun v H1 s1 g1 => ?_
  refine hl S σ H1 _ (ok.m s1) fun H2 s2 => ?_
  refine hh S σ H2 _ ((ok.m s1).m s2) fun H3 s3 => ?_
  cases (show Rep X.K (hide S H3) v (.list ds) from Rep.m (hide_same (s2.trans s3)) g1) with
  | lst h1 h2 =>
    refine ⟨_, _, rfl, SqL.of (hide_some h1).2, fun p hp => ?_⟩
    have n := same_new hp
    exact q _ _ ((s1.trans (s2.trans s3)).trans (n _)) ⟨p, _, rfl, (s1.trans (s2.trans s3)).free hp, upd_same, RepAll.m (hide_free hp (n _)) (rep_cut h2 l h)⟩
theorem ev_sliceS {lo hi : Option Expr} {l h : Option Int} {p2 : Pos} {z : Str} (ha : EV X a δ (.str z)) (hz : z.length ≤ sizeLine) (hl : EO X lo δ l) (hh : EO X hi δ h) : EV X (.Subscript a (.Slice lo hi none p2) pos) δ (.str (cutS z l h)) := fun S σ H Q ok q => by
  refine sE_of (pe_slice sl_str pe_s po_s po_s) ?_
  refine ha S σ H _ ok fun v H1 s1 g1 => ?_
  refine hl S σ H1 _ (ok.m s1) fun H2 s2 => ?_
  refine hh S σ H2 _ ((ok.m s1).m s2) fun H3 s3 => ?_
  cases (show Rep X.K (hide S H1) v (.str z) from g1)
  exact ⟨z, rfl, hz, q _ _ (s1.trans (s2.trans s3)) (.str _)⟩
theorem el_rev {k : Nat} {p1 p2 p3 : Pos} {es : List PyData} (ha : EV X a δ (.list ds)) (he : ds.reverse = es := by rfl) : EL X (.Subscript a (.Slice none none (some (.UnaryOp .USub (.Constant (.int 1) k p1) p2)) p3) pos) δ es := fun S σ H Q ok q => by
  subst he
  refine sE_of (pe_revL pe_s) ?_
  refine ha S σ H _ ok fun v H1 s1 g1 => ?_
  cases (show Rep X.K (hide S H1) v (.list ds) from g1) with
  | lst h1 h2 =>
    refine ⟨_, _, rfl, SqL.of (hide_some h1).2, fun p hp => ?_⟩
    have n := same_new hp
    exact q _ _ (s1.trans (n _)) ⟨p, _, rfl, s1.free hp, upd_same, RepAll.m (hide_free hp (n _)) h2.reverse⟩

/-! ## calls of built-ins -/
/-- what a call of a built-in thing says of its arguments -/
def CalR (X : Cx) (f : Value) (xs : List PyData) (r : Res) : Prop := ∃ t, CallR X f t ∧
  ∀ (S : Addr → Prop) (H : Hp) (vs : List V) (Q : VK), (∀ a, S a → H a ≠ none) → RepAll X.K (hide S H) vs xs → (∀ z H', Same H H' → Got X.K S H H' z r → Q z H') → t vs H Q
theorem eg_callB {id : String} {x : Str} {p : Pos} {r : Res} (hc : CalR X (.builtin id) ds r) (ha : EA X (e :: es) δ ds) (hm : X.mg x = none) (hv : bootBuiltins x = some (.builtin id)) (hg : Gl X x := by rfl)
    (hn : x ≠ "__name__" := by decide) (hdb : (x == ("__debug__" : Str)) = false := by decide)
    (hs : starEach (e :: es) X.env = (false, eval e X.env) :: starEach es X.env := by rfl) (hpl : (backTo pos (starEach es X.env)).any (·.1) = false := by rfl) : EG X (.Call (.Name x p) (e :: es) [] pos) δ r := fun S σ H Q ok q => by
  obtain ⟨t, ht, hr⟩ := hc
  refine sE_of (pe_callB ht hg hm hv pa_s hn hdb hs hpl) ?_
  refine ha S σ H _ ok fun vs H1 s1 g1 => ?_
  exact hr S H1 vs _ (ok.m s1).hid g1 fun z H' s3 g3 => q _ _ (s1.trans s3) (g3.back s1)
theorem eg_callTy {id : String} {x : Str} {p : Pos} {r : Res} (hc : CalR X (.type id) ds r) (ha : EA X (e :: es) δ ds) (hm : X.mg x = none) (hv : bootBuiltins x = some (.type id)) (hg : Gl X x := by rfl)
    (hn : x ≠ "__name__" := by decide) (hdb : (x == ("__debug__" : Str)) = false := by decide)
    (hs : starEach (e :: es) X.env = (false, eval e X.env) :: starEach es X.env := by rfl) (hpl : (backTo pos (starEach es X.env)).any (·.1) = false := by rfl) : EG X (.Call (.Name x p) (e :: es) [] pos) δ r := fun S σ H Q ok q => by
  obtain ⟨t, ht, hr⟩ := hc
  refine sE_of (pe_callTy ht hg hm hv pa_s hn hdb hs hpl) ?_
  refine ha S σ H _ ok fun vs H1 s1 g1 => ?_
  exact hr S H1 vs _ (ok.m s1).hid g1 fun z H' s3 g3 => q _ _ (s1.trans s3) (g3.back s1)
theorem cr_lenL (hl : True) : CalR X (.builtin "len") [.list ds] (.dat (.int ds.length)) := ⟨_, call_len, fun S H vs Q _ h q => by
  cases h with
  | cons h t =>
    cases t
    cases h with
    | lst h1 h2 => exact ⟨_, _, rfl, .inl ⟨_, SqL.of (hide_some h1).2, rfl⟩, q _ H (Same.refl H) (by rw [h2.length]; exact .int _)⟩⟩
theorem cr_lenT : CalR X (.builtin "len") [.tuple ds] (.dat (.int ds.length)) := ⟨_, call_len, fun S H vs Q _ h q => by
  cases h with
  | cons h t =>
    cases t
    cases h with
    | tup h1 h2 => exact ⟨_, _, rfl, .inr ⟨_, same_sqt hide_le h1, rfl⟩, q _ H (Same.refl H) (by rw [h2.length]; exact .int _)⟩⟩
theorem cr_lenS {z : Str} (hz : z.length ≤ sizeLine) : CalR X (.builtin "len") [.str z] (.dat (.int z.length)) := ⟨_, call_len, fun S H vs Q _ h q => by
  cases h with
  | cons h t =>
    cases t
    cases h
    exact ⟨_, _, rfl, ⟨hz, rfl⟩, q _ H (Same.refl H) (.int _)⟩⟩
theorem cr_listL : CalR X (.type "list") [.list ds] (.fresh ds) := ⟨_, call_list_of, fun S H vs Q _ h q => by
  cases h with
  | cons h t =>
    cases t
    cases h with
    | lst h1 h2 =>
      refine ⟨_, _, rfl, .inl (SqL.of (hide_some h1).2), fun l hl => ?_⟩
      have n := same_new hl
      exact q _ _ (n _) ⟨l, _, rfl, hl, upd_same, RepAll.m (hide_free hl (n _)) h2⟩⟩
theorem cr_tupleL : CalR X (.type "tuple") [.list ds] (.dat (.tuple ds)) := ⟨_, call_tuple_of, fun S H vs Q hs h q => by
  cases h with
  | cons h t =>
    cases t
    cases h with
    | lst h1 h2 =>
      refine ⟨_, _, rfl, .inl ⟨SqL.of (hide_some h1).2, fun l hl => ?_⟩⟩
      have n := same_new hl
      refine q _ _ (n _) (.tup (.inl (.inl ?_)) (RepAll.m (hide_same (n _)) h2))
      rw [hide_get (fun z => hs l z hl), upd_same]⟩
theorem rep_bls {K : PySem.W.Frag} {H : Hp} : ∀ {l : List Bool} {vs : List V}, RepAll K H vs (l.map PyData.bool) → vs = l.map V.bl
  | [], _, h => by cases h; rfl
  | s :: l, _, h => by
    cases h with
    | cons h1 h2 => cases h1; rw [rep_bls h2]; rfl
theorem cr_anyB {bs : List Bool} (hc : X.calm = true := by rfl) : CalR X (.builtin "any") [.list (bs.map PyData.bool)] (.dat (.bool (bs.any id))) := ⟨_, cr_any hc, fun S H vs Q _ h q => by
  cases h with
  | cons h t =>
    cases t
    cases h with
    | lst h1 h2 =>
      have e := rep_bls h2
      subst e
      exact ⟨_, bs, rfl, SqL.of (hide_some h1).2, q _ H (Same.refl H) (.bl _)⟩⟩
theorem cr_allB {bs : List Bool} (hc : X.calm = true := by rfl) : CalR X (.builtin "all") [.list (bs.map PyData.bool)] (.dat (.bool (bs.all id))) := ⟨_, cr_all hc, fun S H vs Q _ h q => by
  cases h with
  | cons h t =>
    cases t
    cases h with
    | lst h1 h2 =>
      have e := rep_bls h2
      subst e
      exact ⟨_, bs, rfl, SqL.of (hide_some h1).2, q _ H (Same.refl H) (.bl _)⟩⟩
theorem cr_intI {i : Int} : CalR X (.type "int") [.int i] (.dat (.int i)) := ⟨_, call_int1, fun S H vs Q _ h q => by
  cases h with
  | cons h t =>
    cases t
    cases h
    exact .inl ⟨i, rfl, q _ H (Same.refl H) (.int _)⟩⟩
theorem cr_max2 {i j : Int} (hc : X.calm = true := by rfl) : CalR X (.builtin "max") [.int i, .int j] (.dat (.int (if j > i then j else i))) := ⟨_, call_max2 hc, fun S H vs Q _ h q => by
  cases h with
  | cons h t =>
    cases h
    cases t with
    | cons h t =>
      cases t
      cases h
      exact ⟨i, j, rfl, q _ H (Same.refl H) (.int _)⟩⟩
theorem cr_min2 {i j : Int} (hc : X.calm = true := by rfl) : CalR X (.builtin "min") [.int i, .int j] (.dat (.int (if j < i then j else i))) := ⟨_, call_min2 hc, fun S H vs Q _ h q => by
  cases h with
  | cons h t =>
    cases h
    cases t with
    | cons h t =>
      cases t
      cases h
      exact ⟨i, j, rfl, q _ H (Same.refl H) (.int _)⟩⟩

/-! ### isinstance -/
inductive Ty where | «str» | tuple | «list» | int | bool | dict
  deriving DecidableEq
def Ty.name : Ty → String
  | .str => "str" | .tuple => "tuple" | .list => "list" | .int => "int" | .bool => "bool" | .dict => "dict"
def isTy : PyData → Ty → Bool
  | .str _, .str => true
  | .tuple _, .tuple => true
  | .list _, .list => true
  | .int _, .int => true
  | .bool _, .int => true
  | .bool _, .bool => true
  | _, _ => false
def tyName : PyData → String
  | .none => "NoneType" | .bool _ => "bool" | .int _ => "int" | .str _ => "str" | .list _ => "list" | .tuple _ => "tuple" | .dict _ => "dict"
theorem kit_table : ∀ t : Ty, kitB "NoneType" t.name = some false ∧ kitB "bool" t.name = some (decide (t = .int) || decide (t = .bool)) ∧ kitB "int" t.name = some (decide (t = .int)) ∧ kitB "str" t.name = some (decide (t = .str)) ∧
    kitB "list" t.name = some (decide (t = .list)) ∧ kitB "tuple" t.name = some (decide (t = .tuple)) := by
  intro t
  cases t <;> decide +kernel
theorem kit_isTy {K : PySem.W.Frag} {H : Hp} {v : V} (h : Rep K H v d) (t : Ty) : kitB (tyName d) t.name = some (isTy d t) := by
  have z := kit_table t
  cases h
  · rw [show tyName .none = "NoneType" from rfl, z.1]; cases t <;> rfl
  · rw [show ∀ b, tyName (.bool b) = "bool" from fun _ => rfl, z.2.1]; cases t <;> rfl
  · rw [show ∀ b, tyName (.int b) = "int" from fun _ => rfl, z.2.2.1]; cases t <;> rfl
  · rw [show ∀ b, tyName (.str b) = "str" from fun _ => rfl, z.2.2.2.1]; cases t <;> rfl
  · rw [show ∀ b, tyName (.list b) = "list" from fun _ => rfl, z.2.2.2.2.1]; cases t <;> rfl
  · rw [show ∀ b, tyName (.tuple b) = "tuple" from fun _ => rfl, z.2.2.2.2.2]; cases t <;> rfl
theorem ty_of {K : PySem.W.Frag} {H : Hp} {v : V} (h : Rep K H v d) : TyX K H v (.type (tyName d)) := by
  cases h with
  | non => exact .base .non
  | bl b => exact .base (.bl b)
  | int i => exact .base (.int i)
  | str x => exact .base (.str x)
  | lst h1 h2 => exact .base (.lst h1)
  | tup h1 h2 =>
    rcases h1 with (h | ⟨o, h⟩) | ⟨o, its, n, h, hc, _⟩
    · exact .base (.tup h)
    · exact .fTuple h
    · exact .kTuple h hc
/-- a built-in type by its name -/
structure TyN (X : Cx) (x : Str) (t : Ty) : Prop where
  glob : Gl X x
  none : X.mg x = none
  boot : bootBuiltins x = some (.type t.name)
  nn : x ≠ "__name__"
  nd : (x == ("__debug__" : Str)) = false
theorem ev_isi {t : Ty} {x y : Str} {p p2 : Pos} {k : Bool} (T : TyN X y t) (ha : EV X a δ d) (hm : X.mg x = none) (hv : bootBuiltins x = some (.builtin "isinstance")) (hg : Gl X x := by rfl)
    (hn : x ≠ "__name__" := by decide) (hdb : (x == ("__debug__" : Str)) = false := by decide)
    (hs : starEach [a, .Name y p2] X.env = (false, eval a X.env) :: starEach [.Name y p2] X.env := by rfl) (hpl : (backTo pos (starEach [.Name y p2] X.env)).any (·.1) = false := by rfl)
    (hs2 : starEach [.Name y p2] X.env = (false, eval (.Name y p2) X.env) :: starEach [] X.env := by rfl) (hk : isTy d t = k := by rfl) : EV X (.Call (.Name x p) [a, .Name y p2] [] pos) δ (.bool k) := fun S σ H Q ok q => by
  subst hk
  refine sE_of (pe_callB call_isi hg hm hv (pa_cons pe_s (pa_cons (pe_bltn (v := .ty t.name) T.glob T.none T.boot rfl T.nn T.nd) pa_nil hs2) hs) hn hdb hs hpl) ?_
  refine ha S σ H _ ok fun v H1 s1 g1 => ?_
  have g2 : Rep X.K H1 v d := Rep.m hide_le g1
  exact ⟨v, .ty t.name, .type (tyName d), .type t.name, isTy d t, rfl, .ty _, ty_of g2, kit_ty (kit_isTy g2 t), q _ _ s1 (.bl _)⟩
/-- isinstance(x, (A, B)) -/
theorem ev_isi2 {t t' : Ty} {x y y' : Str} {p p2 p3 p4 : Pos} {k : Nat} {b' : Bool} (T : TyN X y t) (T' : TyN X y' t') (ha : EV X a δ d) (hm : X.mg x = none) (hv : bootBuiltins x = some (.builtin "isinstance")) (hg : Gl X x := by rfl)
    (hn : x ≠ "__name__" := by decide) (hdb : (x == ("__debug__" : Str)) = false := by decide)
    (hs : starEach [a, .Tuple [.Name y p2, .Name y' p3] k p4] X.env = (false, eval a X.env) :: starEach [.Tuple [.Name y p2, .Name y' p3] k p4] X.env := by rfl) (hpl : (backTo pos (starEach [.Tuple [.Name y p2, .Name y' p3] k p4] X.env)).any (·.1) = false := by rfl)
    (hs2 : starEach [.Tuple [.Name y p2, .Name y' p3] k p4] X.env = (false, eval (.Tuple [.Name y p2, .Name y' p3] k p4) X.env) :: starEach [] X.env := by rfl)
    (hs3 : starEach [.Name y p2, .Name y' p3] X.env = (false, eval (.Name y p2) X.env) :: starEach [.Name y' p3] X.env := by rfl) (hs4 : starEach [.Name y' p3] X.env = (false, eval (.Name y' p3) X.env) :: starEach [] X.env := by rfl)
    (hk : (isTy d t || isTy d t') = b' := by rfl) : EV X (.Call (.Name x p) [a, .Tuple [.Name y p2, .Name y' p3] k p4] [] pos) δ (.bool b') := fun S σ H Q ok q => by
  subst hk
  refine sE_of (pe_callB call_isiT hg hm hv (pa_cons pe_s (pa_cons (pe_tup (pa_cons (pe_bltn (v := .ty t.name) T.glob T.none T.boot rfl T.nn T.nd) (pa_cons (pe_bltn (v := .ty t'.name) T'.glob T'.none T'.boot rfl T'.nn T'.nd) pa_nil hs4) hs3)) pa_nil hs2) hs) hn hdb hs hpl) ?_
  refine ha S σ H _ ok fun v H1 s1 g1 => ?_
  refine ⟨by show 2 ≤ sizeLine; decide, fun q' hq => ?_⟩
  have n := same_new hq (.tup [V.ty t.name, V.ty t'.name])
  have g2 : Rep X.K (upd H1 q' (.tup [V.ty t.name, V.ty t'.name])) v d := Rep.m n (Rep.m hide_le g1)
  refine ⟨v, q', _, .type (tyName d), [.type t.name, .type t'.name], _, rfl, upd_same, .cons (.ty _) (.cons (.ty _) .nil), ty_of g2, ?_, q _ _ (s1.trans n) (.bl _)⟩
  refine kitAny_cons (kit_ty (kit_isTy g2 t)) (fun z => ?_) (fun z => by rw [z, Bool.true_or])
  refine kitAny_cons (kit_ty (kit_isTy g2 t')) (fun z2 => ?_) (fun z2 => by rw [z2, Bool.or_true])
  rw [z, z2]
  exact kitAny_nil
end
end PU
namespace PU
open PySem PySem.Spec PyProof.Rows L2 StX

/-! ## calls of defs -/
/-- a promise by data: for such arguments this result; all else stays -/
def spR (K : PySem.W.Frag) (f : List PyData → Res → Prop) : Sp := fun vs H Q _ => ∃ (S : Addr → Prop) (ds : List PyData) (r : Res), (∀ a, S a → H a ≠ none) ∧ RepAll K (hide S H) vs ds ∧ f ds r ∧ ∀ v H', Same H H' → Got K S H H' v r → Q v H'
/-- a def that may be called -/
structure Cal (P : Program) (w : World) (K : PySem.W.Frag) (mg : Str → Option Value) (base : Heap) (k : Nat) (x : Str) (ps : List Str) (sp : Sp) : Prop where
  ex : ∃ (a : Addr) (fd : FuncData), mg x = some (.ref a) ∧ PySem.W.keepIn K (.ref a) = true ∧ Binds K fd ps [] ∧ FnOk P w K mg base CX0 k a fd ps sp
section
variable {X : Cx} {δ : PEnv} {e a b c : Expr} {es : List Expr} {pos : Pos} {d x y : PyData} {ds xs ys : List PyData} {k : Bool}
theorem eg_call {n : Nat} {x : Str} {p : Pos} {ps : List Str} {f : List PyData → Res → Prop} {r : Res} (C : Cal X.prog X.w X.K X.mg X.base n x ps (spR X.K f)) (hr : Room n X.A) (ha : EA X (e :: es) δ ds) (hf : f ds r) (hg : Gl X x := by rfl)
    (hd : (x == ("__debug__" : Str)) = false := by decide)
    (he : starEach (e :: es) X.env = (false, eval e X.env) :: starEach es X.env := by rfl) (hpl : (backTo pos (starEach es X.env)).any (·.1) = false := by rfl) : EG X (.Call (.Name x p) (e :: es) [] pos) δ r := fun S σ H Q ok q => by
  obtain ⟨a, fd, hm, hk, hb, F⟩ := C.ex
  refine sE_of (pe_call F hr hg hm hk hb .nil pass0 pa_s hd he hpl) ?_
  refine ha S σ H _ ok fun vs H1 s1 g1 => ?_
  refine ⟨S, ds, r, (ok.m s1).hid, ?_, hf, fun v H' s2 g2 => q _ _ (s1.trans s2) (g2.back s1)⟩
  rw [List.append_nil]
  exact g1

/-! ## what is walked -/
structure Walks (K : PySem.W.Frag) (S : Addr → Prop) (J : It) (H0 : Hp) (ds : List PyData) : Prop where
  go : ∀ H i, Same (hide S H0) (hide S H) → i < ds.length → J.go i H
  stop : ∀ H, Same (hide S H0) (hide S H) → J.stop ds.length H
  yld : ∀ (T : Addr → Prop) H i x H', (∀ a, T a → H a ≠ none) → (∀ a, T a → S a ∨ H0 a = none) → Same (hide S H0) (hide S H) → i < ds.length → J.yld i H x H' → Same H H' ∧ ∃ d, ds[i]? = some d ∧ Rep K (hide T H') x d
theorem hide_ext {S T : Addr → Prop} {H0 H : Hp} (h1 : ∀ a, T a → S a ∨ H0 a = none) (e : Same (hide S H0) (hide S H)) : Same (hide S H0) (hide T H) := fun b u q => by
  obtain ⟨c, q0⟩ := hide_some q
  obtain ⟨_, q1⟩ := hide_some (e b u q)
  rw [hide_get]
  · exact q1
  · intro z
    rcases h1 b z with z | z
    · exact c z
    · rw [z] at q0; cases q0
def EI (X : Cx) (tg iter : Expr) (δ : PEnv) (ds : List PyData) : Prop :=
  ∀ (S : Addr → Prop) (σ : L2.St) (H : Hp) (R : It → Hp → Prop), Ok X.K S H σ δ → (∀ J H1, Same H H1 → Walks X.K S J H1 ds → R J H1) → sI X tg iter σ H R
theorem sI_of {tg iter : Expr} {wi : TI} {σ : L2.St} {H : Hp} {R : It → Hp → Prop} (h : PI X tg iter wi) (q : wi σ H R) : sI X tg iter σ H R := ⟨fun pins s I => h.run pins s σ H R I q⟩
theorem ei_list {tg : Expr} (h : EV X e δ (.list ds)) : EI X tg e δ ds := fun S σ H R ok q => by
  refine sI_of (pi_list pe_s) ?_
  refine h S σ H _ ok fun v H1 s1 g1 => ?_
  cases (show Rep X.K (hide S H1) v (.list ds) from g1) with
  | @lst a vs _ h1 h2 =>
    obtain ⟨hS, h1'⟩ := hide_some h1
    have at_ : ∀ {H2 : Hp}, Same (hide S H1) (hide S H2) → H2 a = some (.lst vs) := fun e => (hide_some (e _ _ h1)).2
    refine ⟨a, rfl, ⟨vs, SqL.of h1'⟩, q _ _ s1 ⟨fun H2 i e hi => ?_, fun H2 e => ?_, fun T H2 i x H' hid hT2 e hi hy => ?_⟩⟩
    · have hi' : i < vs.length := by rw [h2.length]; exact hi
      exact ⟨vs, vs[i], SqL.of (at_ e), List.getElem?_eq_getElem hi'⟩
    · exact ⟨vs, SqL.of (at_ e), by rw [h2.length]; exact Nat.le_refl _⟩
    · obtain ⟨rfl, hy⟩ := hy
      have hx := hy vs (SqL.of (at_ e))
      obtain ⟨d, hd, hr⟩ := h2.get' hx
      exact ⟨Same.refl _, d, hd, hr.m (hide_ext hT2 e)⟩
theorem ei_tup {tg : Expr} (h : EV X e δ (.tuple ds)) : EI X tg e δ ds := fun S σ H R ok q => by
  refine sI_of (pi_tup pe_s) ?_
  refine h S σ H _ ok fun v H1 s1 g1 => ?_
  cases (show Rep X.K (hide S H1) v (.tuple ds) from g1) with
  | @tup a vs _ h1 h2 =>
    have at_ : ∀ {H2 : Hp}, Same (hide S H1) (hide S H2) → SqT X.K H2 a vs := fun e => same_sqt hide_le (same_sqt e h1)
    refine ⟨a, rfl, ⟨vs, same_sqt hide_le h1⟩, q _ _ s1 ⟨fun H2 i e hi => ?_, fun H2 e => ?_, fun T H2 i x H' hid hT2 e hi hy => ?_⟩⟩
    · have hi' : i < vs.length := by rw [h2.length]; exact hi
      exact ⟨vs, vs[i], at_ e, List.getElem?_eq_getElem hi'⟩
    · exact ⟨vs, at_ e, by rw [h2.length]; exact Nat.le_refl _⟩
    · obtain ⟨rfl, hy⟩ := hy
      have hx := hy vs (at_ e)
      obtain ⟨d, hd, hr⟩ := h2.get' hx
      exact ⟨Same.refl _, d, hd, hr.m (hide_ext hT2 e)⟩
def signs (z : Str) : List PyData := z.cps.toList.map fun c => PyData.str ⟨#[c]⟩
theorem ei_str {tg : Expr} {z : Str} (h : EV X e δ (.str z)) : EI X tg e δ (signs z) := fun S σ H R ok q => by
  refine sI_of (pi_str pe_s) ?_
  refine h S σ H _ ok fun v H1 s1 g1 => ?_
  cases (show Rep X.K (hide S H1) v (.str z) from g1)
  have hl : (signs z).length = z.cps.size := by unfold signs; rw [List.length_map, Array.length_toList]
  refine ⟨z, rfl, q _ _ s1 ⟨fun H2 i e hi => ?_, fun H2 e => ?_, fun T H2 i x H' hid hT2 e hi hy => ?_⟩⟩
  · show i < z.cps.size
    rw [← hl]; exact hi
  · show z.cps.size ≤ _
    rw [hl]; exact Nat.le_refl _
  · obtain ⟨rfl, c, hc, rfl⟩ := hy
    refine ⟨Same.refl _, .str ⟨#[c]⟩, ?_, .str _⟩
    unfold signs
    rw [List.getElem?_map, Array.getElem?_toList, hc] <;> rfl
def rngD (lo : Int) (n : Nat) : List PyData := (List.range n).map fun (i : Nat) => PyData.int (lo + (i : Int))
theorem rngD_len (lo : Int) (n : Nat) : (rngD lo n).length = n := by unfold rngD; rw [List.length_map, List.length_range]
theorem walks_rng {K : PySem.W.Frag} {S : Addr → Prop} {H1 : Hp} (lo : Int) (n : Nat) : Walks K S (Itr lo n) H1 (rngD lo n) := by
  refine ⟨fun H2 i e hi => ?_, fun H2 e => ?_, fun T H2 i x H' hid hT2 e hi hy => ?_⟩
  · show i < n
    rw [rngD_len] at hi; exact hi
  · show n ≤ _
    rw [rngD_len]; exact Nat.le_refl _
  · obtain ⟨rfl, rfl⟩ := hy
    rw [rngD_len] at hi
    refine ⟨Same.refl _, .int (lo + i), ?_, .int _⟩
    unfold rngD
    rw [List.getElem?_map, List.getElem?_range hi] <;> rfl
theorem ei_range1 {tg : Expr} {p : Pos} {j : Int} (h : EV X a δ (.int j)) (hm : X.mg "range" = none) (h1 : -(2 ^ 62) ≤ j) (h2 : j < 2 ^ 62) (hg : Gl X "range" := by rfl) (hs : starEach [a] X.env = [(false, eval a X.env)] := by rfl) :
    EI X tg (.Call (.Name "range" p) [a] [] pos) δ (rngD 0 j.toNat) := fun S σ H R ok q => by
  refine sI_of (pi_range1 hg hm pa_s hs) ?_
  refine ea_cons h ea_nil hs S σ H _ ok fun vs H1 s1 g1 => ?_
  cases g1 with
  | cons g t =>
    cases t
    cases g
    exact ⟨j, rfl, h1, h2, q _ _ s1 (walks_rng 0 j.toNat)⟩
theorem ei_range2 {tg : Expr} {p : Pos} {i j : Int} (h : EV X a δ (.int i)) (h' : EV X b δ (.int j)) (hm : X.mg "range" = none) (hb : -(2 ^ 62) ≤ i ∧ i < 2 ^ 62 ∧ -(2 ^ 62) ≤ j ∧ j < 2 ^ 62) (hg : Gl X "range" := by rfl)
    (hs : starEach [a, b] X.env = [(false, eval a X.env), (false, eval b X.env)] := by rfl) (hs2 : starEach [b] X.env = [(false, eval b X.env)] := by rfl) :
    EI X tg (.Call (.Name "range" p) [a, b] [] pos) δ (rngD i (j - i).toNat) := fun S σ H R ok q => by
  refine sI_of (pi_range2 hg hm pa_s hs hs2) ?_
  refine ea_cons h (ea_cons h' ea_nil hs2) (by rw [hs, hs2]) S σ H _ ok fun vs H1 s1 g1 => ?_
  cases g1 with
  | cons g t =>
    cases g
    cases t with
    | cons g t =>
      cases t
      cases g
      exact ⟨i, j, rfl, hb, q _ _ s1 (walks_rng i (j - i).toNat)⟩

/-! ## list comprehensions -/
/-- in the block of a comprehension -/
def EGB (X : Cx) (scope : Scope) (e : Expr) (δ : PEnv) (r : Res) : Prop := ∀ (s : Shared) (H : Hp) (C : Addr) (cl : List (Str × Addr)) (fp : List Addr), EG (X.blk s H scope (compEnvC scope cl C X.env) fp) e δ r
def ETB (X : Cx) (scope : Scope) (e : Expr) (δ : PEnv) (b : Bool) : Prop := ∀ (s : Shared) (H : Hp) (C : Addr) (cl : List (Str × Addr)) (fp : List Addr), ET (X.blk s H scope (compEnvC scope cl C X.env) fp) e δ b
def sEB (X : Cx) (scope : Scope) (e : Expr) : TE := fun σ H Q => ∀ (s : Shared) (H0 : Hp) (C : Addr) (cl : List (Str × Addr)) (fp : List Addr), sE (X.blk s H0 scope (compEnvC scope cl C X.env) fp) e σ H Q
def sTB (X : Cx) (scope : Scope) (e : Expr) : TT := fun σ H Q => ∀ (s : Shared) (H0 : Hp) (C : Addr) (cl : List (Str × Addr)) (fp : List Addr), sT (X.blk s H0 scope (compEnvC scope cl C X.env) fp) e σ H Q
theorem pe_sB {scope : Scope} (s : Shared) (H : Hp) (C : Addr) (cl : List (Str × Addr)) (fp : List Addr) : PE (X.blk s H scope (compEnvC scope cl C X.env) fp) e (sEB X scope e) := ⟨fun pins s' σ H' Q I h => (h s H C cl fp).go pins s' I⟩
theorem pt_sB {scope : Scope} (s : Shared) (H : Hp) (C : Addr) (cl : List (Str × Addr)) (fp : List Addr) : PT (X.blk s H scope (compEnvC scope cl C X.env) fp) e (sTB X scope e) := ⟨fun pins s' σ H' Q I h => (h s H C cl fp).go pins s' I⟩
def wipeD (δ : PEnv) : List Nat → PEnv
  | [] => δ
  | v :: vs => (wipeD δ vs).set v none
theorem wipeD_some {δ : PEnv} {i : Nat} {x : PyData} : ∀ {vs : List Nat}, (wipeD δ vs)[i]? = some (some x) → δ[i]? = some (some x) ∧ i ∉ vs
  | [], h => ⟨h, by simp⟩
  | v :: vs, h => by
    unfold wipeD at h
    by_cases hi : v = i
    · subst hi
      by_cases hv : v < (wipeD δ vs).length
      · rw [List.getElem?_set_self hv] at h; cases h
      · rw [List.getElem?_eq_none (by simpa using hv)] at h; cases h
    · rw [List.getElem?_set_ne hi] at h
      obtain ⟨h1, h2⟩ := wipeD_some h
      exact ⟨h1, by simp only [List.mem_cons, not_or]; exact ⟨fun e => hi e.symm, h2⟩⟩
theorem wipeD_len (δ : PEnv) : ∀ vs : List Nat, (wipeD δ vs).length = δ.length
  | [] => rfl
  | v :: vs => by unfold wipeD; rw [List.length_set, wipeD_len δ vs]
theorem wipe_keep {σ : L2.St} {i : Nat} {x : V} : ∀ {vs : List Nat}, i ∉ vs → σ[i]? = some (some x) → (wipe σ vs)[i]? = some (some x)
  | [], _, h => h
  | v :: vs, hn, h => by
    simp only [List.mem_cons, not_or] at hn
    unfold wipe
    rw [List.getElem?_set_ne (fun e => hn.1 e.symm)]
    exact wipe_keep hn.2 h
theorem Ok.wipe {K : PySem.W.Frag} {S : Addr → Prop} {H : Hp} {σ : L2.St} {δ : PEnv} (ok : Ok K S H σ δ) (vs : List Nat) : Ok K S H (L2.wipe σ vs) (wipeD δ vs) :=
  { len := by rw [wipeD_len, wipe_length]; exact ok.len
    hid := ok.hid
    dat := fun i d h => by
      obtain ⟨h1, h2⟩ := wipeD_some h
      obtain ⟨v, h3, h4⟩ := ok.dat i d h1
      exact ⟨v, wipe_keep h2 h3, h4⟩ }
theorem Ok.set {K : PySem.W.Frag} {S : Addr → Prop} {H : Hp} {σ : L2.St} {δ : PEnv} (ok : Ok K S H σ δ) {v : V} {d : PyData} (h : Rep K (hide S H) v d) (i : Nat) : Ok K S H (σ.set i (some v)) (δ.set i (some d)) :=
  { len := by rw [List.length_set, List.length_set]; exact ok.len
    hid := ok.hid
    dat := fun j e hj => by
      by_cases c : i = j
      · subst c
        by_cases hi : i < δ.length
        · rw [List.getElem?_set_self hi] at hj
          cases hj
          exact ⟨v, List.getElem?_set_self (Nat.lt_of_lt_of_le hi ok.len), h⟩
        · rw [List.getElem?_eq_none (by simpa using hi)] at hj; cases hj
      · rw [List.getElem?_set_ne c] at hj
        obtain ⟨u, h1, h2⟩ := ok.dat j e hj
        exact ⟨u, by rw [List.getElem?_set_ne c]; exact h1, h2⟩ }
/-- what a target makes of an item -/
def TgtOk (K : PySem.W.Frag) (vs : List Nat) (g : TG) (d : PyData) (t : PEnv → PEnv) : Prop :=
  ∀ (S : Addr → Prop) (σ : L2.St) (H : Hp) (x : V) (δ : PEnv) (Q : L2.St → Hp → Prop), Rep K (hide S H) x d → Ok K S H (wipe σ vs) δ → (∀ σ2, wipe σ2 vs = wipe σ vs → Ok K S H σ2 (t δ) → Q σ2 H) → g x (wipe σ vs) H Q
theorem wipe_set {σ : L2.St} {i : Nat} {x : Option V} : ∀ {vs : List Nat}, i ∈ vs → wipe (σ.set i x) vs = wipe σ vs
  | v :: vs, h => by
    by_cases c : i ∈ vs
    · unfold L2.wipe; rw [wipe_set c]
    · have e : i = v := by
        rcases List.mem_cons.mp h with z | z
        · exact z
        · exact absurd z c
      subst e
      have comm : ∀ ws : List Nat, i ∉ ws → wipe (σ.set i x) ws = (wipe σ ws).set i x := by
        intro ws
        induction ws with
        | nil => intro _; rfl
        | cons w ws ih =>
          intro hw
          simp only [List.mem_cons, not_or] at hw
          unfold L2.wipe
          rw [ih hw.2, List.set_comm _ _ hw.1]
      unfold L2.wipe
      rw [comm vs c, List.set_set]
theorem wipe_wipe {σ : L2.St} : ∀ (vs ws : List Nat), (∀ v ∈ ws, v ∈ vs) → wipe (wipe σ ws) vs = wipe σ vs
  | vs, [], _ => rfl
  | vs, w :: ws, h => by
    show wipe ((wipe σ ws).set w none) vs = wipe σ vs
    rw [wipe_set (h w List.mem_cons_self), wipe_wipe vs ws (fun v hv => h v (List.mem_cons_of_mem _ hv))]
theorem tgt_name {K : PySem.W.Frag} {i : Nat} {vs : List Nat} {d : PyData} (hi : i ∈ vs := by decide) : TgtOk K vs (gName i) d (fun δ => δ.set i (some d)) := fun S σ H x δ Q hr ok q => by
  refine q _ ?_ (ok.set hr i)
  rw [wipe_set hi, wipe_wipe vs vs fun _ h => h]
theorem tgt_pair {K : PySem.W.Frag} {i j : Nat} {vs : List Nat} {d e : PyData} (hi : i ∈ vs := by decide) (hj : j ∈ vs := by decide) : TgtOk K vs (gTup K 2 (gCons (gName i) (gCons (gName j) gNil))) (.tuple [d, e]) (fun δ => (δ.set i (some d)).set j (some e)) := fun S σ H x δ Q hr ok q => by
  cases hr with
  | tup h1 h2 =>
    cases h2 with
    | cons r1 h2 =>
      cases h2 with
      | cons r2 h2 =>
        cases h2
        refine ⟨_, _, rfl, same_sqt hide_le h1, rfl, _, _, rfl, _, _, rfl, rfl, q _ ?_ ((ok.set r1 i).set r2 j)⟩
        rw [wipe_set hj, wipe_set hi, wipe_wipe vs vs fun _ h => h]
/-- [elt for tg in iter if ..]: keep tells which items are kept, f what becomes of them -/
theorem el_lc_core {elt tg iter : Expr} {ifs : List Expr} {scope : Scope} {own : List (Str × Nat)} {g : TG} {tt : TT} {keep : PyData → Bool} {f : PyData → PyData} (hc : X.calm = true) (hN : X.N.Nodup) (hi : EI X tg iter δ ds) (ok : BlkOk X.N X.env.scope scope own)
    (hg : ∀ (s : Shared) (H : Hp) (C : Addr) (cl : List (Str × Addr)) (fp : List Addr), PG (X.blk s H scope (compEnvC scope cl C X.env) fp) tg g)
    (ht : ∀ (s : Shared) (H : Hp) (C : Addr) (cl : List (Str × Addr)) (fp : List Addr), PTs (X.blk s H scope (compEnvC scope cl C X.env) fp) ifs tt)
    (hstep : ∀ d ∈ ds, ∃ t, TgtOk X.K (own.map (·.2)) g d t ∧ (∀ S σ H Q, Ok X.K S H σ (t (wipeD δ (own.map (·.2)))) → (∀ H', Same H H' → Q (keep d) H') → tt σ H Q) ∧ (keep d = true → EGB X scope elt (t (wipeD δ (own.map (·.2)))) (.dat (f d))))
    (hlen : ds.length ≤ sizeLine) (hs : ∀ x, foldedSetIterable iter X.env x = pure x := by intro _; rfl) :
    EL X (.ListComp elt [⟨tg, iter, ifs, 0⟩] scope pos) δ ((ds.filter keep).map f) := fun S σ H Q okE q => by
  refine sE_of (pe_lc hc hN pi_s ok hg ht pe_sB hs) ?_
  refine hi S σ H _ okE fun J H1 s1 W => ?_
  intro D hD
  have hn0 := same_new hD
  -- the invariant: by turns, the heap
  let P : Nat → Hp → Prop := fun i H2 => Same H1 H2 ∧ ∃ vs, H2 D = some (.lst vs) ∧ RepAll X.K (hide (fun a => S a ∨ a = D) H2) vs (((ds.take i).filter keep).map f)
  refine ⟨fun i m H2 => m = ds.length - i ∧ i ≤ ds.length ∧ P i H2, ⟨ds.length, by simp, Nat.zero_le _, hn0 _, [], upd_same, by rw [List.take_zero]; exact .nil⟩, ?_⟩
  rintro i m H2 ⟨rfl, hle, s2, vs, hv, hr⟩
  have sS : Same (hide S H1) (hide S H2) := hide_same s2
  have okH : Ok X.K (fun a => S a ∨ a = D) H2 σ δ := by
    have o1 := okE.m s1
    refine { len := o1.len, hid := fun a ha => ?_, dat := fun j d hj => ?_ }
    · rcases ha with ha | ha
      · exact (o1.m s2).hid a ha
      · subst ha; rw [hv]; exact fun z => nomatch z
    · obtain ⟨v, h1, h2⟩ := o1.dat j d hj
      exact ⟨v, h1, h2.m (hide_free hD s2)⟩
  by_cases hlt : i < ds.length
  · refine .inr ⟨W.go H2 i sS hlt, P (i + 1), fun H' p' => ⟨ds.length - (i + 1), by omega, rfl, hlt, p'⟩, fun x H' hy => ?_⟩
    obtain ⟨s3, d, hd, hx⟩ := W.yld (fun a => S a ∨ a = D) H2 i x H' okH.hid (fun a ha => ha.elim .inl fun e => .inr (by rw [e]; exact hD)) sS hlt hy
    have hmem : d ∈ ds := List.mem_of_getElem? hd
    obtain ⟨t, tg1, tt1, el1⟩ := hstep d hmem
    have ew := wipe_wipe (σ := σ) (own.map (·.2)) [] (fun _ h => nomatch h)
    refine tg1 (fun a => S a ∨ a = D) σ H' x (wipeD δ (own.map (·.2))) _ hx ((okH.m s3).wipe _) fun σ2 hw2 ok2 => ⟨hw2, ?_⟩
    refine tt1 _ _ _ _ ok2 fun H3 s4 => ?_
    have htk : ds.take (i + 1) = ds.take i ++ [d] := by rw [List.take_add_one, hd]; rfl
    by_cases hk : keep d = true
    · rw [if_pos hk]
      have el2 := el1 hk
      intro sh Hh C cl fp
      refine el2 sh Hh C cl fp (fun a => S a ∨ a = D) σ2 H3 _ (ok2.m s4) fun y H4 s5 g5 => ?_
      have s6 : Same H2 H4 := s3.trans (s4.trans s5)
      have hD4 := s6 _ _ hv
      refine ⟨vs, hD4, ?_, ?_⟩
      · have := hr.length
        have h3 : (((ds.take i).filter keep).map f).length ≤ i := by
          rw [List.length_map]
          exact Nat.le_trans (List.length_filter_le _ _) (by rw [List.length_take]; exact Nat.min_le_left _ _)
        omega
      · refine ⟨fun b u hb => ?_, vs ++ [y], upd_same, ?_⟩
        · have hb' := ne_of_none hb hD
          rw [upd_ne hb']
          exact s6 _ _ (s2 _ _ hb)
        · rw [htk, List.filter_append, List.map_append]
          have hfk : [d].filter keep = [d] := by simp [hk]
          rw [hfk]
          have e0 : hide (fun a => S a ∨ a = D) (upd H4 D (.lst (vs ++ [y]))) = hide (fun a => S a ∨ a = D) H4 := hide_upd (.inr rfl)
          rw [e0]
          exact (hr.m (hide_same s6)).append (.cons g5 .nil)
    · rw [if_neg hk]
      have s6 : Same H2 H3 := s3.trans s4
      refine ⟨s2.trans s6, vs, s6 _ _ hv, ?_⟩
      rw [htk, List.filter_append]
      have hfk : [d].filter keep = [] := by simp [hk]
      rw [hfk, List.append_nil]
      exact hr.m (hide_same s6)
  · have e : i = ds.length := by omega
    subst e
    refine .inl ⟨W.stop H2 sS, q _ _ (s1.trans s2) ⟨D, vs, rfl, s1.free hD, hv, ?_⟩⟩
    rw [List.take_length] at hr
    exact hr
theorem filter_all (ds : List PyData) : ds.filter (fun _ => true) = ds := List.filter_eq_self.mpr fun _ _ => rfl
/-- [elt for x in iter] -/
theorem el_lc {elt iter : Expr} {scope : Scope} {x : Str} {px : Pos} (i : Nat) {f : PyData → PyData} (hN : X.N.Nodup) (hi : EI X (.Name x px) iter δ ds) (hb : blkC X.N X.env.scope scope [(x, i)] = true)
    (hstep : ∀ d ∈ ds, EGB X scope elt ((wipeD δ [i]).set i (some d)) (.dat (f d))) (hlen : ds.length ≤ sizeLine)
    (hNi : X.N[i]? = some x := by rfl) (hc : X.calm = true := by rfl) (hg : ∀ (s : Shared) (H : Hp) (C : Addr) (cl : List (Str × Addr)) (fp : List Addr), PG (X.blk s H scope (compEnvC scope cl C X.env) fp) (.Name x px) (gName i) := by exact fun _ _ _ _ _ => pg_name (by assumption) rfl (Or.inl rfl))
    (hs : ∀ x, foldedSetIterable iter X.env x = pure x := by intro _; rfl) :
    EL X (.ListComp elt [⟨.Name x px, iter, [], 0⟩] scope pos) δ (ds.map f) := by
  have h := el_lc_core (pos := pos) (elt := elt) (keep := fun _ => true) (f := f) (g := gName i) hc hN hi (blkOk_by hb) hg (fun _ _ _ _ _ => pts_nil)
    (fun d hd => ⟨_, tgt_name (i := i) (by simp), fun S σ H Q ok q => q H (Same.refl H), fun _ => hstep d hd⟩) hlen hs
  rw [filter_all] at h
  exact h
/-- [elt for x in iter if test] -/
theorem el_lcIf {elt iter c : Expr} {scope : Scope} {x : Str} {px : Pos} (i : Nat) {f : PyData → PyData} {keep : PyData → Bool} (hN : X.N.Nodup) (hi : EI X (.Name x px) iter δ ds) (hb : blkC X.N X.env.scope scope [(x, i)] = true)
    (htest : ∀ d ∈ ds, ETB X scope c ((wipeD δ [i]).set i (some d)) (keep d)) (hstep : ∀ d ∈ ds, keep d = true → EGB X scope elt ((wipeD δ [i]).set i (some d)) (.dat (f d))) (hlen : ds.length ≤ sizeLine)
    (hNi : X.N[i]? = some x := by rfl) (hc : X.calm = true := by rfl) (hg : ∀ (s : Shared) (H : Hp) (C : Addr) (cl : List (Str × Addr)) (fp : List Addr), PG (X.blk s H scope (compEnvC scope cl C X.env) fp) (.Name x px) (gName i) := by exact fun _ _ _ _ _ => pg_name (by assumption) rfl (Or.inl rfl))
    (hs : ∀ x, foldedSetIterable iter X.env x = pure x := by intro _; rfl) :
    EL X (.ListComp elt [⟨.Name x px, iter, [c], 0⟩] scope pos) δ ((ds.filter keep).map f) :=
  el_lc_core (pos := pos) (elt := elt) (keep := keep) (f := f) (g := gName i) hc hN hi (blkOk_by hb) hg (fun _ _ _ _ _ => pts_one (pt_sB _ _ _ _ _))
    (fun d hd => ⟨_, tgt_name (i := i) (by simp), fun S σ H Q ok q s' H0 C cl fp => htest d hd s' H0 C cl fp S σ H Q ok q, fun hk => hstep d hd hk⟩) hlen hs
/-- [elt for x, y in iter], over pairs -/
theorem el_lc2 {elt iter : Expr} {scope : Scope} {x y : Str} {px py pt : Pos} {kk : Nat} (i j : Nat) {f : PyData → PyData} (hN : X.N.Nodup) (hi : EI X (.Tuple [.Name x px, .Name y py] kk pt) iter δ ds) (hb : blkC X.N X.env.scope scope [(x, i), (y, j)] = true)
    (hstep : ∀ d ∈ ds, ∃ a b, d = .tuple [a, b] ∧ EGB X scope elt (((wipeD δ [i, j]).set i (some a)).set j (some b)) (.dat (f d))) (hlen : ds.length ≤ sizeLine)
    (hc : X.calm = true := by rfl) (hg : ∀ (s : Shared) (H : Hp) (C : Addr) (cl : List (Str × Addr)) (fp : List Addr), PG (X.blk s H scope (compEnvC scope cl C X.env) fp) (.Tuple [.Name x px, .Name y py] kk pt) (gTup X.K 2 (gCons (gName i) (gCons (gName j) gNil))) := by
      exact fun _ _ _ _ _ => pg_tup rfl (pgs_cons (pg_name (by assumption) rfl (Or.inl rfl)) (pgs_cons (pg_name (by assumption) rfl (Or.inl rfl)) pgs_nil)))
    (hs : ∀ x, foldedSetIterable iter X.env x = pure x := by intro _; rfl) :
    EL X (.ListComp elt [⟨.Tuple [.Name x px, .Name y py] kk pt, iter, [], 0⟩] scope pos) δ (ds.map f) := by
  have h := el_lc_core (pos := pos) (elt := elt) (keep := fun _ => true) (f := f) (g := gTup X.K 2 (gCons (gName i) (gCons (gName j) gNil))) hc hN hi (blkOk_by hb) hg (fun _ _ _ _ _ => pts_nil)
    (fun d hd => by
      obtain ⟨a, b, rfl, h⟩ := hstep d hd
      exact ⟨_, tgt_pair (i := i) (j := j) (by simp) (by simp), fun S σ H Q ok q => q H (Same.refl H), fun _ => h⟩) hlen hs
  rw [filter_all] at h
  exact h
end
end PU
namespace PU
open PySem PySem.Spec PyProof.Rows L2 StX

/-! ## slots: data, an own list, the purse -/
inductive Slot where
  | unk
  | dat (d : PyData)
  | own (ds : List PyData)
  | purse
abbrev SEnv := List Slot
def Slot.flat : Slot → Option PyData
  | .unk => none
  | .dat d => some d
  | .own ds => some (.list ds)
  | .purse => none
def flat (δ : SEnv) : PEnv := δ.map Slot.flat
def Slot.isOwn : Slot → Bool
  | .own _ => true
  | _ => false
def toSlot : Res → Slot
  | .dat d => .dat d
  | .fresh ds => .own ds
def nlR : Res → Bool
  | .dat d => nl d
  | .fresh ds => nlAll ds
/-- a is the address of an own list -/
def owned (δ : SEnv) (A : Nat → Addr) (a : Addr) : Prop := ∃ (i : Nat) (ds : List PyData), δ[i]? = some (.own ds) ∧ a = A i
/-- no own lists, but perhaps at i -/
def noOwnBut (δ : SEnv) (i : Nat) : Prop := ∀ (j : Nat) (ds : List PyData), δ[j]? = some (.own ds) → j = i
def noOwn (δ : SEnv) : Prop := ∀ (j : Nat) (ds : List PyData), δ[j]? ≠ some (.own ds)

def ownFree (δ : SEnv) : Bool := δ.all fun s => !s.isOwn
theorem nob {δ : SEnv} {i : Nat} (h : ownFree δ = true) : noOwnBut δ i := fun j ds e => by
  have := List.all_eq_true.mp h _ (List.mem_of_getElem? e)
  cases this
structure OkS (K : PySem.W.Frag) (p : Addr) (S : Addr → Prop) (H0 H : Hp) (σ : L2.St) (δ : SEnv) (A : Nat → Addr) : Prop where
  len : δ.length ≤ σ.length
  base : Same H0 H
  hid : ∀ a, S a → H a ≠ none
  dat : ∀ (i : Nat) (d : PyData), δ[i]? = some (.dat d) → ∃ v, σ[i]? = some (some v) ∧ Rep K (hide (fun a => S a ∨ owned δ A a) H) v d
  own : ∀ (i : Nat) (ds : List PyData), δ[i]? = some (.own ds) → σ[i]? = some (some (.ref (A i))) ∧ H0 (A i) = none ∧ ¬ S (A i) ∧ ∃ vs, H (A i) = some (.lst vs) ∧ RepAll K (hide (fun a => S a ∨ owned δ A a) H) vs ds
  inj : ∀ (i j : Nat) (ds es : List PyData), δ[i]? = some (.own ds) → δ[j]? = some (.own es) → A i = A j → i = j
  pur : ∀ (i : Nat), δ[i]? = some .purse → σ[i]? = some (some (.ref p)) ∧ S p ∧ H0 p = none
section
variable {K : PySem.W.Frag} {p : Addr} {S : Addr → Prop} {H0 H H1 : Hp} {σ : L2.St} {δ : SEnv} {A : Nat → Addr}
theorem OkS.m (e : Same H H1) (ok : OkS K p S H0 H σ δ A) : OkS K p S H0 H1 σ δ A :=
  { len := ok.len
    base := ok.base.trans e
    hid := fun a h z => by
      cases q : H a with
      | none => exact ok.hid a h q
      | some o =>
        rw [e _ _ q] at z
        cases z
    dat := fun i d h => by
      obtain ⟨v, h1, h2⟩ := ok.dat i d h
      exact ⟨v, h1, h2.m (hide_same e)⟩
    own := fun i ds h => by
      obtain ⟨h1, h2, h3, vs, h4, h5⟩ := ok.own i ds h
      exact ⟨h1, h2, h3, vs, e _ _ h4, h5.m (hide_same e)⟩
    inj := ok.inj
    pur := ok.pur }
theorem OkS.ok (ok : OkS K p S H0 H σ δ A) : Ok K S H σ (flat δ) :=
  { len := by unfold flat; rw [List.length_map]; exact ok.len
    hid := ok.hid
    dat := fun i d h => by
      unfold flat at h
      rw [List.getElem?_map] at h
      cases q : δ[i]? with
      | none => rw [q] at h; cases h
      | some s =>
        rw [q] at h
        have h : s.flat = some d := Option.some.inj h
        cases s with
        | unk => cases h
        | purse => cases h
        | dat d' =>
          cases h
          obtain ⟨v, h1, h2⟩ := ok.dat i _ q
          exact ⟨v, h1, h2.m (hide_anti fun a z => .inl z)⟩
        | own ds =>
          cases h
          obtain ⟨h1, h2, h3, vs, h4, h5⟩ := ok.own i ds q
          exact ⟨_, h1, .lst (xs := vs) (by rw [hide_get h3]; exact h4) (h5.m (hide_anti fun a z => .inl z))⟩ }
/-- all own lists hidden -/
def datO (δ : SEnv) : PEnv := δ.map fun s => match s with | .dat d => some d | _ => none
theorem OkS.okO (ok : OkS K p S H0 H σ δ A) : Ok K (fun a => S a ∨ owned δ A a) H σ (datO δ) :=
  { len := by unfold datO; rw [List.length_map]; exact ok.len
    hid := fun a h => by
      rcases h with h | ⟨i, ds, h1, rfl⟩
      · exact ok.hid a h
      · obtain ⟨_, _, _, vs, h4, _⟩ := ok.own i ds h1
        rw [h4]; exact fun z => nomatch z
    dat := fun i d h => by
      unfold datO at h
      rw [List.getElem?_map] at h
      cases q : δ[i]? with
      | none => rw [q] at h; cases h
      | some s =>
        rw [q] at h
        cases s with
        | dat d' => cases h; exact ok.dat i _ q
        | _ => cases h }
theorem OkS.lst (ok : OkS K p S H0 H σ δ A) {a : Addr} (h : owned δ A a) : ∃ xs, H a = some (.lst xs) := by
  obtain ⟨i, ds, h1, rfl⟩ := h
  obtain ⟨_, _, _, vs, h4, _⟩ := ok.own i ds h1
  exact ⟨vs, h4⟩
/-- what may be put into a slot: it does not reach an own list -/
def Safe (δ : SEnv) (i : Nat) (r : Res) : Prop := noOwnBut δ i ∨ nlR r = true
theorem set_ne {α : Type} {l : List α} {i j : Nat} {x : α} (h : i ≠ j) : (l.set i x)[j]? = l[j]? := List.getElem?_set_ne h
theorem set_get {α : Type} {l : List α} {i j : Nat} {x y : α} (h : (l.set i x)[j]? = some y) : (i = j ∧ i < l.length ∧ y = x) ∨ (i ≠ j ∧ l[j]? = some y) := by
  by_cases c : i = j
  · subst c
    by_cases hi : i < l.length
    · rw [List.getElem?_set_self hi] at h
      exact .inl ⟨rfl, hi, (Option.some.inj h).symm⟩
    · rw [List.getElem?_eq_none (by simpa using hi)] at h; cases h
  · rw [set_ne c] at h
    exact .inr ⟨c, h⟩
theorem OkS.put (ok : OkS K p S H0 H σ δ A) (s1 : Same H H1) {v : V} {r : Res} (g : Got K S H H1 v r) {i : Nat} (safe : Safe δ i r) : ∃ A', OkS K p S H0 H1 (σ.set i (some v)) (δ.set i (toSlot r)) A' := by
  have ok1 := ok.m s1
  cases r with
  | dat d =>
    have hO : ∀ a, owned (δ.set i (.dat d)) A a → owned δ A a := fun a ⟨j, ds, h1, h2⟩ => by
      rcases set_get h1 with ⟨_, _, e⟩ | ⟨_, e⟩
      · cases e
      · exact ⟨j, ds, e, h2⟩
    have sub : Same (hide (fun a => S a ∨ owned δ A a) H1) (hide (fun a => S a ∨ owned (δ.set i (.dat d)) A a) H1) := hide_anti fun a z => z.elim .inl fun z => .inr (hO a z)
    refine ⟨A, ?_⟩
    show OkS K p S H0 H1 (σ.set i (some v)) (δ.set i (.dat d)) A
    refine { len := by rw [List.length_set, List.length_set]; exact ok.len, base := ok1.base, hid := ok1.hid, dat := fun j e hj => ?_, own := fun j ds hj => ?_, inj := fun j j' ds es h1 h2 => ?_, pur := fun j hj => ?_ }
    · rcases set_get hj with ⟨rfl, hi, e1⟩ | ⟨ne, hj⟩
      · cases e1
        refine ⟨v, List.getElem?_set_self (Nat.lt_of_lt_of_le hi ok.len), ?_⟩
        have g' : Rep K (hide S H1) v d := g
        rcases safe with safe | safe
        · refine g'.m (hide_anti fun a z => z.elim id fun ⟨j, ds, h1, h2⟩ => ?_)
          rcases set_get h1 with ⟨_, _, e⟩ | ⟨ne, e⟩
          · cases e
          · exact absurd (safe j ds e).symm ne
        · exact Rep.nl (fun a z => z.elim .inl fun z => .inr (ok1.lst (hO a z))) d v safe g'
      · obtain ⟨u, h1, h2⟩ := ok1.dat j e hj
        exact ⟨u, by rw [set_ne ne]; exact h1, h2.m sub⟩
    · rcases set_get hj with ⟨_, _, e1⟩ | ⟨ne, hj⟩
      · cases e1
      · obtain ⟨h1, h2, h3, vs, h4, h5⟩ := ok1.own j ds hj
        exact ⟨by rw [set_ne ne]; exact h1, h2, h3, vs, h4, h5.m sub⟩
    · rcases set_get h1 with ⟨_, _, e1⟩ | ⟨_, h1⟩
      · cases e1
      · rcases set_get h2 with ⟨_, _, e1⟩ | ⟨_, h2⟩
        · cases e1
        · exact ok.inj j j' ds es h1 h2
    · rcases set_get hj with ⟨_, _, e1⟩ | ⟨ne, hj⟩
      · cases e1
      · obtain ⟨h1, h2⟩ := ok.pur j hj
        exact ⟨by rw [set_ne ne]; exact h1, h2⟩
  | fresh ds0 =>
    obtain ⟨q, vs0, rfl, hq, hq1, hr⟩ := g
    let A' : Nat → Addr := fun j => if j = i then q else A j
    have A'i : A' i = q := if_pos rfl
    have A'j : ∀ {j}, i ≠ j → A' j = A j := fun h => if_neg (fun e => h e.symm)
    have hO : ∀ a, owned (δ.set i (.own ds0)) A' a → owned δ A a ∨ a = q := fun a ⟨j, ds, h1, h2⟩ => by
      rcases set_get h1 with ⟨rfl, _, e⟩ | ⟨ne, e⟩
      · exact .inr (h2.trans A'i)
      · exact .inl ⟨j, ds, e, h2.trans (A'j ne)⟩
    have nq : ¬ S q := fun z => ok.hid q z hq
    have sub : Same (hide (fun a => S a ∨ owned δ A a) H) (hide (fun a => S a ∨ owned (δ.set i (.own ds0)) A' a) H1) := fun b u h => by
      obtain ⟨c, h⟩ := hide_some h
      rw [hide_get]
      · exact s1 _ _ h
      · rintro (z | z)
        · exact c (.inl z)
        · rcases hO b z with z | z
          · exact c (.inr z)
          · subst z; rw [hq] at h; cases h
    have h0q : H0 q = none := ok.base.free hq
    refine ⟨A', ?_⟩
    show OkS K p S H0 H1 (σ.set i (some (.ref q))) (δ.set i (.own ds0)) A'
    refine { len := by rw [List.length_set, List.length_set]; exact ok.len, base := ok1.base, hid := ok1.hid, dat := fun j e hj => ?_, own := fun j ds hj => ?_, inj := fun j j' ds es h1 h2 e => ?_, pur := fun j hj => ?_ }
    · rcases set_get hj with ⟨_, _, e1⟩ | ⟨ne, hj⟩
      · cases e1
      · obtain ⟨u, h1, h2⟩ := ok.dat j e hj
        exact ⟨u, by rw [set_ne ne]; exact h1, h2.m sub⟩
    · rcases set_get hj with ⟨rfl, hi, e1⟩ | ⟨ne, hj⟩
      · cases e1
        refine ⟨by rw [A'i]; exact List.getElem?_set_self (Nat.lt_of_lt_of_le hi ok.len), by rw [A'i]; exact h0q, by rw [A'i]; exact nq, vs0, by rw [A'i]; exact hq1, ?_⟩
        rcases safe with safe | safe
        · refine hr.m (hide_anti fun a z => z.elim .inl fun z => ?_)
          rcases hO a z with ⟨j, es, h1, h2⟩ | z
          · obtain rfl := safe j es h1
            obtain ⟨k, fs, k1, k2⟩ := z
            rcases set_get k1 with ⟨rfl, _, _⟩ | ⟨ne, k1⟩
            · exact .inr (k2.trans A'i)
            · exact absurd (safe k fs k1).symm ne
          · exact .inr z
        · exact RepAll.nl (fun a z => z.elim (fun z => .inl (.inl z)) fun z => .inr (by
            rcases hO a z with z | z
            · exact ok1.lst z
            · subst z; exact ⟨_, hq1⟩)) ds0 vs0 safe hr
      · obtain ⟨h1, h2, h3, vs, h4, h5⟩ := ok.own j ds hj
        rw [A'j ne]
        exact ⟨by rw [set_ne ne]; exact h1, h2, h3, vs, s1 _ _ h4, h5.m sub⟩
    · rcases set_get h1 with ⟨rfl, _, _⟩ | ⟨n1, h1⟩
      · rcases set_get h2 with ⟨e2, _, _⟩ | ⟨n2, h2⟩
        · exact e2
        · exfalso
          rw [A'i, A'j n2] at e
          obtain ⟨_, _, _, vs, h4, _⟩ := ok.own j' es h2
          rw [← e, hq] at h4
          cases h4
      · rcases set_get h2 with ⟨rfl, _, _⟩ | ⟨n2, h2⟩
        · exfalso
          rw [A'i, A'j n1] at e
          obtain ⟨_, _, _, vs, h4, _⟩ := ok.own j ds h1
          rw [e, hq] at h4
          cases h4
        · rw [A'j n1, A'j n2] at e
          exact ok.inj j j' ds es h1 h2 e
    · rcases set_get hj with ⟨_, _, e1⟩ | ⟨ne, hj⟩
      · cases e1
      · obtain ⟨h1, h2⟩ := ok.pur j hj
        exact ⟨by rw [set_ne ne]; exact h1, h2⟩
/-- an own list is changed -/
theorem OkS.chg (ok : OkS K p S H0 H σ δ A) {i : Nat} {ds es : List PyData} (hi : δ[i]? = some (.own ds)) {ws : List V} (hr : RepAll K (hide (fun a => S a ∨ owned δ A a) H) ws es) : OkS K p S H0 (upd H (A i) (.lst ws)) σ (δ.set i (.own es)) A := by
  have hil : i < δ.length := (List.getElem?_eq_some_iff.mp hi).1
  have hO : ∀ a, owned (δ.set i (.own es)) A a ↔ owned δ A a := fun a => by
    constructor
    · rintro ⟨j, fs, h1, h2⟩
      rcases set_get h1 with ⟨rfl, _, e⟩ | ⟨_, e⟩
      · exact ⟨i, ds, hi, h2⟩
      · exact ⟨j, fs, e, h2⟩
    · rintro ⟨j, fs, h1, h2⟩
      by_cases c : i = j
      · subst c
        exact ⟨i, es, List.getElem?_set_self hil, h2⟩
      · exact ⟨j, fs, by rw [set_ne c]; exact h1, h2⟩
  have hS : (fun a => S a ∨ owned (δ.set i (.own es)) A a) = fun a => S a ∨ owned δ A a := by
    funext a; exact propext (or_congr Iff.rfl (hO a))
  have hU : hide (fun a => S a ∨ owned (δ.set i (.own es)) A a) (upd H (A i) (.lst ws)) = hide (fun a => S a ∨ owned δ A a) H := by
    rw [hS]
    exact hide_upd (.inr ⟨i, ds, hi, rfl⟩)
  obtain ⟨_, h0, hSi, vs0, hv0, _⟩ := ok.own i ds hi
  refine { len := by rw [List.length_set]; exact ok.len, base := fun b u hb => ?_, hid := fun a ha => ?_, dat := fun j e hj => ?_, own := fun j fs hj => ?_, inj := fun j j' fs gs h1 h2 e => ?_, pur := fun j hj => ?_ }
  · rw [upd_ne (ne_of_none hb h0)]
    exact ok.base _ _ hb
  · by_cases c : a = A i
    · subst c; rw [upd_same]; exact fun z => nomatch z
    · rw [upd_ne c]; exact ok.hid a ha
  · rcases set_get hj with ⟨_, _, e1⟩ | ⟨ne, hj⟩
    · cases e1
    · obtain ⟨u, h1, h2⟩ := ok.dat j e hj
      exact ⟨u, h1, by rw [hU]; exact h2⟩
  · rcases set_get hj with ⟨rfl, _, e1⟩ | ⟨ne, hj⟩
    · cases e1
      obtain ⟨h1, h2, h3, _⟩ := ok.own i ds hi
      exact ⟨h1, h2, h3, ws, upd_same, by rw [hU]; exact hr⟩
    · obtain ⟨h1, h2, h3, vs, h4, h5⟩ := ok.own j fs hj
      refine ⟨h1, h2, h3, vs, ?_, by rw [hU]; exact h5⟩
      rw [upd_ne]
      · exact h4
      · intro e
        exact ne (ok.inj i j ds fs hi hj e.symm)
  · rcases set_get h1 with ⟨rfl, _, e1⟩ | ⟨n1, h1⟩
    · rcases set_get h2 with ⟨e2, _, _⟩ | ⟨n2, h2⟩
      · exact e2
      · exact ok.inj i j' ds gs hi h2 e
    · rcases set_get h2 with ⟨rfl, _, _⟩ | ⟨n2, h2⟩
      · exact ok.inj j i fs ds h1 hi e
      · exact ok.inj j j' fs gs h1 h2 e
  · rcases set_get hj with ⟨_, _, e1⟩ | ⟨ne, hj⟩
    · cases e1
    · exact ok.pur j hj
end

/-! ## the purse, or a list that was handed in to be changed -/
inductive Bud where
  | none
  /-- the purse: four counts, the third at most n -/
  | coin (n : Nat)
  /-- a list of data without lists -/
  | lst (ds : List PyData)
def Pu (K : PySem.W.Frag) (p : Addr) (S : Addr → Prop) : Bud → Hp → Prop
  | .none, _ => True
  | .coin n, H => S p ∧ ∃ x y z w : Int, H p = some (.lst [.int x, .int y, .int z, .int w]) ∧ 0 ≤ x ∧ 0 ≤ y ∧ y < 2 ^ 32 ∧ 0 ≤ z ∧ z ≤ n ∧ 0 ≤ w ∧ w < 2 ^ 32
  | .lst ds, H => S p ∧ nlAll ds = true ∧ ∃ vs, H p = some (.lst vs) ∧ RepAll K (hide S H) vs ds
theorem Pu.m {K : PySem.W.Frag} {p : Addr} {S : Addr → Prop} {H H' : Hp} (e : Same H H') : ∀ {n : Bud}, Pu K p S n H → Pu K p S n H'
  | .none, _ => trivial
  | .coin _, ⟨hS, x, y, z, w, h, r⟩ => ⟨hS, x, y, z, w, e _ _ h, r⟩
  | .lst _, ⟨hS, hn, vs, h1, h2⟩ => ⟨hS, hn, vs, e _ _ h1, h2.m (hide_same e)⟩
theorem Pu.upd {K : PySem.W.Frag} {p a : Addr} {S : Addr → Prop} {H : Hp} {o : HO} (h : ¬ S a) (hl : ∃ xs, H a = some (.lst xs)) : ∀ {n : Bud}, Pu K p S n H → Pu K p S n (upd H a o)
  | .none, _ => trivial
  | .coin _, ⟨hS, x, y, z, w, q, r⟩ => ⟨hS, x, y, z, w, by rw [upd_ne (fun e => by subst e; exact h hS)]; exact q, r⟩
  | .lst ds, ⟨hS, hn, vs, h1, h2⟩ => by
    refine ⟨hS, hn, vs, by rw [upd_ne (fun e => by subst e; exact h hS)]; exact h1, ?_⟩
    have r1 : RepAll K (hide (fun b => S b ∨ b = a) H) vs ds := RepAll.nl (fun b z => z.elim .inl fun z => .inr (by subst z; exact hl)) ds vs hn h2
    have e : hide (fun b => S b ∨ b = a) (L2.upd H a o) = hide (fun b => S b ∨ b = a) H := hide_upd (.inr rfl)
    rw [← e] at r1
    exact r1.m (hide_anti fun b z => .inl z)

/-! ## statements -/
def ES (X : Cx) (st : Stmt) (δ : SEnv) (n : Bud) (N : SEnv → Bud → Prop) (R : Res → Bud → Prop) : Prop :=
  ∀ (p : Addr) (S : Addr → Prop) (H0 : Hp) (D : Ends) (σ : L2.St) (H : Hp) (A : Nat → Addr), OkS X.K p S H0 H σ δ A → Pu X.K p S n H →
    (∀ δ' n' σ' H' A', N δ' n' → OkS X.K p S H0 H' σ' δ' A' → Pu X.K p S n' H' → D.nx σ' H') →
    (∀ r n' v H', R r n' → Same H0 H' → Pu X.K p S n' H' → Got X.K S H0 H' v r → D.rt v H') → sS X st D σ H
def EW (X : Cx) (sts : List Stmt) (δ : SEnv) (n : Bud) (N : SEnv → Bud → Prop) (R : Res → Bud → Prop) : Prop :=
  ∀ (p : Addr) (S : Addr → Prop) (H0 : Hp) (D : Ends) (σ : L2.St) (H : Hp) (A : Nat → Addr), OkS X.K p S H0 H σ δ A → Pu X.K p S n H →
    (∀ δ' n' σ' H' A', N δ' n' → OkS X.K p S H0 H' σ' δ' A' → Pu X.K p S n' H' → D.nx σ' H') →
    (∀ r n' v H', R r n' → Same H0 H' → Pu X.K p S n' H' → Got X.K S H0 H' v r → D.rt v H') → sSs X sts D σ H
section
variable {X : Cx} {δ : SEnv} {n : Bud} {N : SEnv → Bud → Prop} {R : Res → Bud → Prop} {e a b c : Expr} {st : Stmt} {sts as bs : List Stmt} {pos : Pos} {d x y : PyData} {ds xs ys : List PyData} {k : Bool} {r : Res}
theorem ew_nil (h : N δ n) : EW X [] δ n N R := fun p S H0 D σ H A ok pu hn hr => sSs_of pss_nil (hn δ n σ H A h ok pu)
theorem ew_cons (h : ES X st δ n (fun δ' n' => EW X sts δ' n' N R) R) : EW X (st :: sts) δ n N R := fun p S H0 D σ H A ok pu hn hr => by
  refine sSs_of (pss_cons ps_s pss_s) ?_
  exact h p S H0 { D with nx := sSs X sts D } σ H A ok pu (fun δ' n' σ' H' A' hN ok' pu' => hN p S H0 D σ' H' A' ok' pu' hn hr) hr
theorem ew_one (h : ES X st δ n N R) : EW X [st] δ n N R := fun p S H0 D σ H A ok pu hn hr => by
  refine sSs_of (pss_one ps_s) ?_
  exact h p S H0 D σ H A ok pu hn hr
/-- x = e -/
theorem es_set {x : Str} {pos' : Pos} (i : Nat) (he : EG X e (flat δ) r) (hN : N (δ.set i (toSlot r)) n) (safe : Safe δ i r := by first | exact Or.inl (nob rfl) | exact Or.inr rfl | assumption) (nd : X.N.Nodup := by assumption)
    (hi : X.N[i]? = some x := by rfl) (hx : Loc X.env.scope x := by first | exact Or.inl rfl | exact Or.inr rfl)
    (hs : swapsWith e (some (.Name x pos')) pos.line X.env = pure false := by rfl) (hf : X.fn x = true ∨ X.env.scope.names.lookup x = some .local := by first | exact .inl rfl | exact .inr rfl) : ES X (.Assign [.Name x pos'] e pos) δ n N R := fun p S H0 D σ H A ok pu hn hr => by
  refine sS_of (ps_set nd hi hx pe_s hs hf) ?_
  refine he S σ H _ ok.ok fun v H1 s1 g1 => ?_
  obtain ⟨A', ok'⟩ := ok.put s1 g1 safe
  exact hn _ n _ H1 A' hN ok' (pu.m s1)
/-- e alone -/
theorem es_expr (he : EG X e (flat δ) r) (hN : N δ n) (hs : swapsWith e none pos.line X.env = pure false := by rfl) : ES X (.Expr e pos) δ n N R := fun p S H0 D σ H A ok pu hn hr => by
  refine sS_of (ps_expr pe_s hs) ?_
  exact he S σ H _ ok.ok fun v H1 s1 g1 => hn _ n _ H1 A hN (ok.m s1) (pu.m s1)
theorem es_if (hc : ET X c (flat δ) k) (h1 : k = true → EW X as δ n N R) (h2 : k = false → EW X bs δ n N R) : ES X (.If c as bs pos) δ n N R := fun p S H0 D σ H A ok pu hn hr => by
  refine sS_of (ps_if pt_s pss_s pss_s) ?_
  refine hc S σ H _ ok.ok fun H1 s1 => ?_
  cases k with
  | true => exact iteT (h1 rfl p S H0 D σ H1 A (ok.m s1) (pu.m s1) hn hr)
  | false => exact iteF (h2 rfl p S H0 D σ H1 A (ok.m s1) (pu.m s1) hn hr)
theorem es_ifT (hc : ET X c (flat δ) true) (h1 : EW X as δ n N R) : ES X (.If c as bs pos) δ n N R := es_if hc (fun _ => h1) fun z => by cases z
theorem es_ifF (hc : ET X c (flat δ) false) (h2 : EW X bs δ n N R) : ES X (.If c as bs pos) δ n N R := es_if hc (fun z => by cases z) fun _ => h2
theorem es_ret (he : EG X e (flat δ) r) (hR : R r n) : ES X (.Return (some e) pos) δ n N R := fun p S H0 D σ H A ok pu hn hr => by
  refine sS_of (ps_ret pe_s) ?_
  exact he S σ H _ ok.ok fun v H1 s1 g1 => hr r n v H1 hR (ok.base.trans s1) (pu.m s1) (g1.back ok.base)
/-- the own list itself is handed back -/
theorem es_retOwn {x : Str} {pos' : Pos} (i : Nat) (hd : δ[i]? = some (.own ds)) (hR : R (.fresh ds) n) (hN : X.N[i]? = some x := by rfl) (hv : Vis X.env.scope x := by first | exact Or.inl rfl | exact Or.inr (Or.inl rfl) | exact Or.inr (Or.inr rfl))
    (h1 : (x == ("__debug__" : Str)) = false := by decide) (h2 : (x == ("__classdict__" : Str)) = false := by decide) : ES X (.Return (some (.Name x pos')) pos) δ n N R := fun p S H0 D σ H A ok pu hn hr => by
  refine sS_of (ps_ret (pe_var hN hv h1 h2)) ?_
  obtain ⟨k1, k2, k3, vs, k4, k5⟩ := ok.own i ds hd
  refine ⟨_, k1, hr _ n _ H hR ok.base pu ⟨A i, vs, rfl, k2, k4, k5.m (hide_anti fun a z => z.elim .inl fun z => .inr ⟨i, ds, hd, z⟩)⟩⟩
theorem es_pass (h : N δ n) : ES X (.Pass pos) δ n N R := fun p S H0 D σ H A ok pu hn hr => sS_of ps_pass (hn δ n σ H A h ok pu)
end
end PU
namespace PU
open PySem PySem.Spec PyProof.Rows L2 StX
section
variable {X : Cx} {δ : SEnv} {n : Bud} {N : SEnv → Bud → Prop} {R : Res → Bud → Prop} {e a b c : Expr} {st : Stmt} {sts as bs : List Stmt} {pos : Pos} {d x y : PyData} {ds xs ys : List PyData} {k : Bool} {r r1 r2 : Res}

theorem Got.nl {K : PySem.W.Frag} {S : Addr → Prop} {H H1 H2 : Hp} {v : V} (s1 : Same H H1) (s2 : Same H1 H2) : ∀ {r : Res}, Got K S H H1 v r → Got K S H H2 v r
  | .dat _, h => Rep.m (hide_same s2) h
  | .fresh _, ⟨p, vs, h1, h2, h3, h4⟩ => ⟨p, vs, h1, h2, s2 _ _ h3, h4.m (hide_same s2)⟩
/-- both parts are data and there is no own list, or both reach none -/
def Safe2 (δ : SEnv) (r1 r2 : Res) : Prop := (ownFree δ = true ∧ (∃ d, r1 = .dat d) ∧ ∃ d, r2 = .dat d) ∨ (nlR r1 = true ∧ nlR r2 = true)
theorem ownFree_set {δ : SEnv} {i : Nat} {d : PyData} (h : ownFree δ = true) : ownFree (δ.set i (.dat d)) = true := by
  unfold ownFree at h ⊢
  refine List.all_eq_true.mpr fun s hs => ?_
  rcases List.mem_or_eq_of_mem_set hs with z | z
  · exact List.all_eq_true.mp h s z
  · subst z; rfl
/-- two things, one after the other, into two slots -/
theorem OkS.put2 {K : PySem.W.Frag} {p : Addr} {S : Addr → Prop} {H0 H H1 H2 : Hp} {σ : L2.St} {A : Nat → Addr} (ok : OkS K p S H0 H σ δ A) (s1 : Same H H1) (s2 : Same H1 H2) {v w : V} (g1 : Got K S H H1 v r1) (g2 : Got K S H1 H2 w r2) {i j : Nat} (safe : Safe2 δ r1 r2) :
    ∃ A', OkS K p S H0 H2 ((σ.set i (some v)).set j (some w)) ((δ.set i (toSlot r1)).set j (toSlot r2)) A' := by
  have sf1 : Safe δ i r1 := by
    rcases safe with ⟨h, _⟩ | ⟨h, _⟩
    · exact .inl (nob h)
    · exact .inr h
  have sf2 : Safe (δ.set i (toSlot r1)) j r2 := by
    rcases safe with ⟨h, ⟨d, e⟩, _⟩ | ⟨_, h⟩
    · subst e; exact .inl (nob (ownFree_set h))
    · exact .inr h
  obtain ⟨A1, ok1⟩ := ok.put s1 g1 sf1
  exact ok1.put s2 g2 sf2
theorem safe2_dat {d d' : PyData} (h : ownFree δ = true) : Safe2 δ (.dat d) (.dat d') := .inl ⟨h, ⟨d, rfl⟩, ⟨d', rfl⟩⟩
/-- x, y = a, b -/
theorem es_par {x y : Str} {px py pt pt2 : Pos} {kt k2 : Nat} (i j : Nat) (ha : EG X a (flat δ) r1) (hb : EG X b (flat δ) r2) (hN : N ((δ.set i (toSlot r1)).set j (toSlot r2)) n) (safe : Safe2 δ r1 r2 := by first | exact safe2_dat rfl | exact Or.inr ⟨rfl, rfl⟩ | assumption) (nd : X.N.Nodup := by assumption)
    (hi : X.N[i]? = some x := by rfl) (hj : X.N[j]? = some y := by rfl) (hij : i ≠ j := by decide) (hx : X.env.scope.names.lookup x = some .local := by rfl) (hy : X.env.scope.names.lookup y = some .local := by rfl)
    (hc : X.calm = true := by rfl) (hw : swappedStores [.Tuple [.Name x px, .Name y py] kt pt] (.Tuple [a, b] k2 pt2) X.env = pure (some [x, y]) := by rfl)
    (hs : swapsWithSole [.Tuple [.Name x px, .Name y py] kt pt] (.Tuple [a, b] k2 pt2) pos.line X.env = pure false := by rfl)
    (he1 : starEach [a, b] X.env = (false, eval a X.env) :: starEach [b] X.env := by rfl) (he2 : starEach [b] X.env = (false, eval b X.env) :: starEach [] X.env := by rfl) :
    ES X (.Assign [.Tuple [.Name x px, .Name y py] kt pt] (.Tuple [a, b] k2 pt2) pos) δ n N R := fun p S H0 D σ H A ok pu hn hr => by
  refine sS_of (ps_par hc nd hi hj hij hx hy (pa_cons pe_s (pa_cons pe_s pa_nil he2) he1) hw hs) ?_
  refine ha S σ H _ ok.ok fun v H1 s1 g1 => ?_
  refine hb S σ H1 _ (ok.m s1).ok fun w H2 s2 g2 => ?_
  refine ⟨v, w, rfl, ?_⟩
  obtain ⟨A', ok'⟩ := ok.put2 s1 s2 g1 g2 (i := i) (j := j) safe
  exact hn _ n _ H2 A' hN ok' ((pu.m s1).m s2)
/-- x, y = e, a pair -/
theorem es_unp {x y : Str} {px py pt : Pos} {kt : Nat} (i j : Nat) {d1 d2 : PyData} (he : EV X e (flat δ) (.tuple [d1, d2])) (hN : N ((δ.set i (.dat d1)).set j (.dat d2)) n) (safe : Safe2 δ (.dat d1) (.dat d2) := by first | exact safe2_dat rfl | exact Or.inr ⟨rfl, rfl⟩ | assumption) (nd : X.N.Nodup := by assumption)
    (hi : X.N[i]? = some x := by rfl) (hj : X.N[j]? = some y := by rfl) (hx : Loc X.env.scope x := by first | exact Or.inl rfl | exact Or.inr rfl) (hy : Loc X.env.scope y := by first | exact Or.inl rfl | exact Or.inr rfl)
    (hfx : X.fn x = true ∨ X.env.scope.names.lookup x = some .local := by first | exact .inl rfl | exact .inr rfl) (hfy : X.fn y = true ∨ X.env.scope.names.lookup y = some .local := by first | exact .inl rfl | exact .inr rfl)
    (hc : X.calm = true := by rfl) (hs : swapsWithSole [.Tuple [.Name x px, .Name y py] kt pt] e pos.line X.env = pure false := by rfl) (hw : swappedStores [.Tuple [.Name x px, .Name y py] kt pt] e X.env = pure none := by rfl) :
    ES X (.Assign [.Tuple [.Name x px, .Name y py] kt pt] e pos) δ n N R := fun p S H0 D σ H A ok pu hn hr => by
  refine sS_of (ps_asg pe_s (pg_tup hc (pgs_cons (pg_name nd hi hx hfx) (pgs_cons (pg_name nd hj hy hfy) pgs_nil))) hs hw) ?_
  refine he S σ H _ ok.ok fun v H1 s1 g1 => ?_
  cases (show Rep X.K (hide S H1) v (.tuple [d1, d2]) from g1) with
  | tup h1 h2 =>
    cases h2 with
    | cons q1 h2 =>
      cases h2 with
      | cons q2 h2 =>
        cases h2
        refine ⟨_, _, rfl, same_sqt hide_le h1, rfl, _, _, rfl, _, _, rfl, rfl, ?_⟩
        obtain ⟨A', ok'⟩ := (ok.m s1).put2 (r1 := .dat d1) (r2 := .dat d2) (Same.refl _) (Same.refl _) q1 q2 (i := i) (j := j) safe
        exact hn _ n _ H1 A' hN ok' (pu.m s1)
/-- x, y, z = e, a triple -/
theorem es_unp3 {x y z : Str} {px py pz pt : Pos} {kt : Nat} (i j l : Nat) {d1 d2 d3 : PyData} (he : EV X e (flat δ) (.tuple [d1, d2, d3])) (hN : N (((δ.set i (.dat d1)).set j (.dat d2)).set l (.dat d3)) n) (safe : ownFree δ = true := by rfl) (nd : X.N.Nodup := by assumption)
    (hi : X.N[i]? = some x := by rfl) (hj : X.N[j]? = some y := by rfl) (hl : X.N[l]? = some z := by rfl) (hx : Loc X.env.scope x := by first | exact Or.inl rfl | exact Or.inr rfl) (hy : Loc X.env.scope y := by first | exact Or.inl rfl | exact Or.inr rfl) (hz : Loc X.env.scope z := by first | exact Or.inl rfl | exact Or.inr rfl)
    (hfx : X.fn x = true ∨ X.env.scope.names.lookup x = some .local := by first | exact .inl rfl | exact .inr rfl) (hfy : X.fn y = true ∨ X.env.scope.names.lookup y = some .local := by first | exact .inl rfl | exact .inr rfl) (hfz : X.fn z = true ∨ X.env.scope.names.lookup z = some .local := by first | exact .inl rfl | exact .inr rfl)
    (hc : X.calm = true := by rfl) (hs : swapsWithSole [.Tuple [.Name x px, .Name y py, .Name z pz] kt pt] e pos.line X.env = pure false := by rfl) (hw : swappedStores [.Tuple [.Name x px, .Name y py, .Name z pz] kt pt] e X.env = pure none := by rfl) :
    ES X (.Assign [.Tuple [.Name x px, .Name y py, .Name z pz] kt pt] e pos) δ n N R := fun p S H0 D σ H A ok pu hn hr => by
  refine sS_of (ps_asg pe_s (pg_tup hc (pgs_cons (pg_name nd hi hx hfx) (pgs_cons (pg_name nd hj hy hfy) (pgs_cons (pg_name nd hl hz hfz) pgs_nil)))) hs hw) ?_
  refine he S σ H _ ok.ok fun v H1 s1 g1 => ?_
  cases (show Rep X.K (hide S H1) v (.tuple [d1, d2, d3]) from g1) with
  | tup h1 h2 =>
    cases h2 with
    | cons q1 h2 =>
      cases h2 with
      | cons q2 h2 =>
        cases h2 with
        | cons q3 h2 =>
          cases h2
          refine ⟨_, _, rfl, same_sqt hide_le h1, rfl, _, _, rfl, _, _, rfl, _, _, rfl, rfl, ?_⟩
          obtain ⟨A', ok'⟩ := (ok.m s1).put2 (r1 := .dat d1) (r2 := .dat d2) (Same.refl _) (Same.refl _) q1 q2 (i := i) (j := j) (safe2_dat safe)
          obtain ⟨A'', ok''⟩ := ok'.put (r := .dat d3) (Same.refl _) q3 (i := l) (.inl (nob (ownFree_set (ownFree_set safe))))
          exact hn _ n _ H1 A'' hN ok'' (pu.m s1)

/-! ## for -/
def hasP (δ : SEnv) : Prop := ∃ i : Nat, δ[i]? = some .purse
/-- the heap without the own lists and the purse -/
noncomputable def lowB (δ : SEnv) (A : Nat → Addr) (p : Addr) (H : Hp) : Hp := hide (fun a => owned δ A a ∨ (hasP δ ∧ a = p)) H
section
variable {K : PySem.W.Frag} {p : Addr} {S : Addr → Prop} {H0 H H2 : Hp} {σ σ2 : L2.St} {δ δ2 : SEnv} {A A2 : Nat → Addr}
theorem OkS.sameLow (ok : OkS K p S H0 H σ δ A) : Same H0 (lowB δ A p H) := fun b u hb => by
  unfold lowB
  rw [hide_get]
  · exact ok.base _ _ hb
  · rintro (⟨i, ds, h1, rfl⟩ | ⟨⟨i, h1⟩, rfl⟩)
    · rw [(ok.own i ds h1).2.1] at hb; cases hb
    · rw [(ok.pur i h1).2.2] at hb; cases hb
theorem OkS.low (ok : OkS K p S H0 H σ δ A) : OkS K p S (lowB δ A p H) H σ δ A :=
  { len := ok.len, base := hide_le, hid := ok.hid, dat := ok.dat, inj := ok.inj
    own := fun i ds h => by
      obtain ⟨h1, h2, h3⟩ := ok.own i ds h
      exact ⟨h1, hide_no (.inl ⟨i, ds, h, rfl⟩), h3⟩
    pur := fun i h => by
      obtain ⟨h1, h2, h3⟩ := ok.pur i h
      exact ⟨h1, h2, hide_no (.inr ⟨⟨i, h⟩, rfl⟩)⟩ }
/-- what is not there below -/
theorem OkS.noLow (ok : OkS K p S H0 H σ δ A) {a : Addr} (h : lowB δ A p H a = none) : owned δ A a ∨ (S a ∧ H0 a = none) ∨ H a = none := by
  by_cases c : owned δ A a ∨ (hasP δ ∧ a = p)
  · rcases c with c | ⟨⟨i, c⟩, rfl⟩
    · exact .inl c
    · exact .inr (.inl (ok.pur i c).2)
  · unfold lowB at h
    rw [hide_get c] at h
    exact .inr (.inr h)
theorem OkS.high (ok : OkS K p S H0 H σ δ A) (ok2 : OkS K p S (lowB δ A p H) H2 σ2 δ2 A2) : OkS K p S H0 H2 σ2 δ2 A2 :=
  { len := ok2.len, base := ok.sameLow.trans ok2.base, hid := ok2.hid, dat := ok2.dat, inj := ok2.inj
    own := fun i ds h => by
      obtain ⟨h1, h2, h3⟩ := ok2.own i ds h
      refine ⟨h1, ?_, h3⟩
      rcases ok.noLow h2 with ⟨j, es, k1, k2⟩ | ⟨_, z⟩ | z
      · rw [k2]; exact (ok.own j es k1).2.1
      · exact z
      · exact ok.base.free z
    pur := fun i h => by
      obtain ⟨h1, h2, h3⟩ := ok2.pur i h
      refine ⟨h1, h2, ?_⟩
      rcases ok.noLow h3 with ⟨j, es, k1, k2⟩ | ⟨_, z⟩ | z
      · rw [k2]; exact (ok.own j es k1).2.1
      · exact z
      · exact ok.base.free z }
end
/-- what a for's target makes of an item -/
def TgS (X : Cx) (g : TG) (d : PyData) (δ t : SEnv) : Prop :=
  ∀ (p : Addr) (S : Addr → Prop) (H0 H : Hp) (σ : L2.St) (A : Nat → Addr) (v : V) (Q : L2.St → Hp → Prop), OkS X.K p S H0 H σ δ A → Rep X.K (hide (fun a => S a ∨ owned δ A a) H) v d → (∀ σ' A', OkS X.K p S H0 H σ' t A' → Q σ' H) → g v σ H Q
theorem es_for_core {tg iter : Expr} {body : List Stmt} {g : TG} (I : Nat → SEnv → Bud → Prop) (hi : EI X tg iter (datO δ) ds) (h0 : I 0 δ n)
    (hg : PG X tg g) (hstep : ∀ (i : Nat) (d : PyData) (δ' : SEnv) (n' : Bud), ds[i]? = some d → I i δ' n' → ∃ t, TgS X g d δ' t ∧ EW X body t n' (fun δ'' n'' => I (i + 1) δ'' n'') R)
    (hd : ∀ δ' n', I ds.length δ' n' → N δ' n')
    (hpo : PassesOwn (model X.prog X.w) X.A X.env X.xe) (hc : X.calm = true := by rfl) (hs : ∀ x, foldedSetIterable iter X.env x = pure x := by intro _; rfl) : ES X (.For tg iter body [] pos) δ n N R := fun p S H0 D σ H A ok pu hn hr => by
  refine sS_of (ps_for hpo hc pi_s hg pss_s hs) ?_
  refine hi _ σ H _ ok.okO fun J H1 s1 W => ?_
  have ok1 := ok.m s1
  let P : Nat → L2.St → Hp → Prop := fun i σ' H' => ∃ (δ' : SEnv) (n' : Bud) (A' : Nat → Addr), I i δ' n' ∧ OkS X.K p S H0 H' σ' δ' A' ∧ Pu X.K p S n' H' ∧ Same (hide (fun a => S a ∨ owned δ A a) H1) (hide (fun a => S a ∨ owned δ A a) H') ∧ ∀ a, owned δ' A' a → (S a ∨ owned δ A a) ∨ H1 a = none
  refine ⟨fun i m σ' H' => m = ds.length - i ∧ i ≤ ds.length ∧ P i σ' H', ⟨ds.length, by simp, Nat.zero_le _, δ, n, A, h0, ok1, pu.m s1, Same.refl _, fun a h => .inl (.inr h)⟩, ?_⟩
  rintro i m σ' H' ⟨rfl, hle, δ', n', A', hI, ok', pu', sm, own'⟩
  by_cases hlt : i < ds.length
  · refine .inr ⟨W.go H' i sm hlt, fun σ'' H'' => i + 1 ≤ ds.length ∧ P (i + 1) σ'' H'', fun σ'' H'' hN => ⟨ds.length - (i + 1), by omega, rfl, hN.1, hN.2⟩, fun v H2 hy => ?_⟩
    obtain ⟨s2, d, hdi, hx⟩ := W.yld (fun a => S a ∨ owned δ' A' a) H' i v H2 ok'.okO.hid (fun a ha => ha.elim (fun z => .inl (.inl z)) (own' a)) sm hlt hy
    obtain ⟨t, tg1, ew⟩ := hstep i d δ' n' hdi hI
    have ok2 := ok'.m s2
    refine tg1 p S _ H2 σ' A' v _ ok2.low hx fun σ3 A3 ok3 => ?_
    have again : ∀ (δ'' : SEnv) (n'' : Bud) (σ'' : L2.St) (H'' : Hp) (A'' : Nat → Addr), I (i + 1) δ'' n'' → OkS X.K p S (lowB δ' A' p H2) H'' σ'' δ'' A'' → Pu X.K p S n'' H'' → i + 1 ≤ ds.length ∧ P (i + 1) σ'' H'' := fun δ'' n'' σ'' H'' A'' hI' ok'' pu'' => by
      refine ⟨hlt, δ'', n'', A'', hI', ok2.high ok'', pu'', fun b u hb => ?_, fun a ha => ?_⟩
      · obtain ⟨c, hb⟩ := hide_some hb
        obtain ⟨_, hb'⟩ := hide_some (sm b u (by rw [hide_get c]; exact hb))
        rw [hide_get c]
        refine ok''.base b u ?_
        unfold lowB
        rw [hide_get]
        · exact s2 _ _ hb'
        · rintro (z | ⟨⟨j, z⟩, rfl⟩)
          · rcases own' b z with z | z
            · exact c z
            · rw [z] at hb; cases hb
          · exact c (.inl (ok'.pur j z).2.1)
      · obtain ⟨j, es, k1, k2⟩ := ha
        have k3 := (ok''.own j es k1).2.1
        rw [← k2] at k3
        rcases ok2.noLow k3 with z | ⟨z, _⟩ | z
        · exact own' a z
        · exact .inl (.inl z)
        · by_cases c : S a ∨ owned δ A a
          · exact .inl c
          · refine .inr ?_
            cases q : H1 a with
            | none => rfl
            | some u =>
              obtain ⟨_, q2⟩ := hide_some (sm a u (by rw [hide_get c]; exact q))
              rw [s2 _ _ q2] at z
              cases z
    exact ew p S _ { D with nx := fun σ'' H'' => i + 1 ≤ ds.length ∧ P (i + 1) σ'' H'', ct := fun σ'' H'' => i + 1 ≤ ds.length ∧ P (i + 1) σ'' H'', bk := D.nx } σ3 H2 A3 ok3 (pu'.m s2)
      (fun δ'' n'' σ'' H'' A'' hN ok'' pu'' => again δ'' n'' σ'' H'' A'' hN ok'' pu'')
      (fun r n'' v' H'' hR s3 pu'' g => hr r n'' v' H'' hR (ok2.sameLow.trans s3) pu'' (g.back ok2.sameLow))
  · have e : i = ds.length := by omega
    subst e
    exact .inl ⟨W.stop H' sm, hn δ' n' σ' H' A' (hd _ _ hI) ok' pu'⟩
theorem tgs_name {i : Nat} (safe : noOwnBut δ i ∨ nl d = true) : TgS X (gName i) d δ (δ.set i (.dat d)) := fun p S H0 H σ A v Q ok hr q => by
  have g : Got X.K S H H v (.dat d) := hr.m (hide_anti fun a z => .inl z)
  obtain ⟨A', ok'⟩ := ok.put (Same.refl H) g (i := i) safe
  exact q _ A' ok'
theorem tgs_pair {i j : Nat} {d1 d2 : PyData} (safe : Safe2 δ (.dat d1) (.dat d2)) : TgS X (gTup X.K 2 (gCons (gName i) (gCons (gName j) gNil))) (.tuple [d1, d2]) δ ((δ.set i (.dat d1)).set j (.dat d2)) := fun p S H0 H σ A v Q ok hr q => by
  cases hr with
  | tup h1 h2 =>
    cases h2 with
    | cons q1 h2 =>
      cases h2 with
      | cons q2 h2 =>
        cases h2
        refine ⟨_, _, rfl, same_sqt hide_le h1, rfl, _, _, rfl, _, _, rfl, rfl, ?_⟩
        have g1 : Got X.K S H H _ (.dat d1) := q1.m (hide_anti fun a z => .inl z)
        have g2 : Got X.K S H H _ (.dat d2) := q2.m (hide_anti fun a z => .inl z)
        obtain ⟨A', ok'⟩ := ok.put2 (r1 := .dat d1) (r2 := .dat d2) (Same.refl _) (Same.refl _) g1 g2 (i := i) (j := j) safe
        exact q _ A' ok'
/-- for x in iter: I by the turn and the slots -/
theorem es_for {iter : Expr} {body : List Stmt} {x : Str} {px : Pos} (i : Nat) (I : Nat → SEnv → Bud → Prop) (hi : EI X (.Name x px) iter (datO δ) ds) (h0 : I 0 δ n)
    (hstep : ∀ (m : Nat) (d : PyData) (δ' : SEnv) (n' : Bud), ds[m]? = some d → I m δ' n' → (noOwnBut δ' i ∨ nl d = true) ∧ EW X body (δ'.set i (.dat d)) n' (fun δ'' n'' => I (m + 1) δ'' n'') R)
    (hd : ∀ δ' n', I ds.length δ' n' → N δ' n') (nd : X.N.Nodup := by assumption) (hNi : X.N[i]? = some x := by rfl) (hx : Loc X.env.scope x := by first | exact Or.inl rfl | exact Or.inr rfl)
    (hf : X.fn x = true ∨ X.env.scope.names.lookup x = some .local := by first | exact .inl rfl | exact .inr rfl)
    (hpo : PassesOwn (model X.prog X.w) X.A X.env X.xe := by exact PassesOwn.never) (hc : X.calm = true := by rfl) (hs : ∀ x, foldedSetIterable iter X.env x = pure x := by intro _; rfl) : ES X (.For (.Name x px) iter body [] pos) δ n N R :=
  es_for_core I hi h0 (pg_name nd hNi hx hf) (fun m d δ' n' h1 h2 => ⟨_, tgs_name (hstep m d δ' n' h1 h2).1, (hstep m d δ' n' h1 h2).2⟩) hd hpo hc hs
/-- for x, y in iter, over pairs -/
theorem es_for2 {iter : Expr} {body : List Stmt} {x y : Str} {px py pt : Pos} {kk : Nat} (i j : Nat) (I : Nat → SEnv → Bud → Prop) (hi : EI X (.Tuple [.Name x px, .Name y py] kk pt) iter (datO δ) ds) (h0 : I 0 δ n)
    (hstep : ∀ (m : Nat) (d : PyData) (δ' : SEnv) (n' : Bud), ds[m]? = some d → I m δ' n' → ∃ d1 d2, d = .tuple [d1, d2] ∧ Safe2 δ' (.dat d1) (.dat d2) ∧ EW X body ((δ'.set i (.dat d1)).set j (.dat d2)) n' (fun δ'' n'' => I (m + 1) δ'' n'') R)
    (hd : ∀ δ' n', I ds.length δ' n' → N δ' n') (nd : X.N.Nodup := by assumption) (hNi : X.N[i]? = some x := by rfl) (hNj : X.N[j]? = some y := by rfl) (hx : Loc X.env.scope x := by first | exact Or.inl rfl | exact Or.inr rfl) (hy : Loc X.env.scope y := by first | exact Or.inl rfl | exact Or.inr rfl)
    (hfx : X.fn x = true ∨ X.env.scope.names.lookup x = some .local := by first | exact .inl rfl | exact .inr rfl) (hfy : X.fn y = true ∨ X.env.scope.names.lookup y = some .local := by first | exact .inl rfl | exact .inr rfl)
    (hpo : PassesOwn (model X.prog X.w) X.A X.env X.xe := by exact PassesOwn.never) (hc : X.calm = true := by rfl) (hs : ∀ x, foldedSetIterable iter X.env x = pure x := by intro _; rfl) : ES X (.For (.Tuple [.Name x px, .Name y py] kk pt) iter body [] pos) δ n N R :=
  es_for_core I hi h0 (pg_tup hc (pgs_cons (pg_name nd hNi hx hfx) (pgs_cons (pg_name nd hNj hy hfy) pgs_nil))) (fun m d δ' n' h1 h2 => by
    obtain ⟨d1, d2, rfl, h3, h4⟩ := hstep m d δ' n' h1 h2
    exact ⟨_, tgs_pair h3, h4⟩) hd hpo hc hs

/-! ## own lists changed -/
/-- x.append(e) -/
theorem es_append {x : Str} {px pm : Pos} (i : Nat) (hd : δ[i]? = some (.own ds)) (he : EV X e (flat δ) d) (hN : N (δ.set i (.own (ds ++ [d]))) n) (hnl : nl d = true) (hl : ds.length < sizeLine) (hNi : X.N[i]? = some x := by rfl)
    (hv : Vis X.env.scope x := by first | exact Or.inl rfl | exact Or.inr (Or.inl rfl) | exact Or.inr (Or.inr rfl)) (h1 : (x == ("__debug__" : Str)) = false := by decide) (h2 : (x == ("__classdict__" : Str)) = false := by decide)
    (hbase : attributeBase (.Name x px) "append" X.env (eval (.Name x px) X.env) = eval (.Name x px) X.env := by rfl)
    (hfew : ((backTo pos (starEach [e] X.env)).all (fun x => !x.1) && (backToKw pos (keywordEach [] X.env)).all (fun x => x.1.isSome) && decide (([e] : List Expr).length + ([] : List Keyword).length + (if ([] : List Keyword).isEmpty then 0 else 1) < 30)) = true := by rfl)
    (hline : (pm.endLine == pos.line) = true := by rfl) (hs : starEach [e] X.env = (false, eval e X.env) :: starEach [] X.env := by rfl) (hplain : (backTo pos (starEach [] X.env)).any (·.1) = false := by rfl)
    {pos2 : Pos} (hsw : swapsWith (.Call (.Attribute (.Name x px) "append" pm) [e] [] pos) none pos2.line X.env = pure false := by rfl) :
    ES X (.Expr (.Call (.Attribute (.Name x px) "append" pm) [e] [] pos) pos2) δ n N R := fun p S H0 D σ H A ok pu hn hr => by
  refine sS_of (ps_expr (pe_bm PySem.F.plainAttrs_list PySem.F.slot_list_append PySem.F.type_list_append mt_append (pe_var hNi hv h1 h2) (pa_cons pe_s pa_nil hs) hbase hfew hline hs hplain) hsw) ?_
  obtain ⟨k1, k2, k3, vs, k4, k5⟩ := ok.own i ds hd
  refine ⟨_, k1, .inl ⟨rfl, vs, SqL.of k4⟩, ?_⟩
  refine he S σ H _ ok.ok fun v H1 s1 g1 => ?_
  have ok1 := ok.m s1
  have g2 : Rep X.K (hide (fun a => S a ∨ owned δ A a) H1) v d := Rep.nl (fun a z => z.elim .inl fun z => .inr (ok1.lst z)) d v hnl g1
  have hz := k5.length
  refine ⟨A i, vs, v, rfl, rfl, s1 _ _ k4, by omega, ?_⟩
  exact hn _ n _ _ A hN (ok1.chg hd ((k5.m (hide_same s1)).append (.cons g2 .nil))) ((pu.m s1).upd k3 ⟨_, s1 _ _ k4⟩)
/-- x.pop(), dropped -/
theorem es_pop {x : Str} {px pm : Pos} (i : Nat) (hd : δ[i]? = some (.own (ds ++ [d]))) (hN : N (δ.set i (.own ds)) n) (hNi : X.N[i]? = some x := by rfl)
    (hv : Vis X.env.scope x := by first | exact Or.inl rfl | exact Or.inr (Or.inl rfl) | exact Or.inr (Or.inr rfl)) (h1 : (x == ("__debug__" : Str)) = false := by decide) (h2 : (x == ("__classdict__" : Str)) = false := by decide)
    (hbase : attributeBase (.Name x px) "pop" X.env (eval (.Name x px) X.env) = eval (.Name x px) X.env := by rfl) (hline : (pm.endLine == pos.line) = true := by rfl)
    {pos2 : Pos} (hsw : swapsWith (.Call (.Attribute (.Name x px) "pop" pm) [] [] pos) none pos2.line X.env = pure false := by rfl) :
    ES X (.Expr (.Call (.Attribute (.Name x px) "pop" pm) [] [] pos) pos2) δ n N R := fun p S H0 D σ H A ok pu hn hr => by
  refine sS_of (ps_expr (pe_bm0 PySem.F.plainAttrs_list PySem.F.slot_list_pop PySem.F.type_list_pop mt_pop (pe_var hNi hv h1 h2) hbase hline) hsw) ?_
  obtain ⟨k1, k2, k3, vs, k4, k5⟩ := ok.own i _ hd
  have hz := k5.length
  rw [List.length_append, List.length_singleton] at hz
  obtain ⟨y, hy, ry⟩ := k5.get (i := ds.length) (d := d) (by rw [List.getElem?_append_right (Nat.le_refl _)]; simp)
  refine ⟨_, k1, .inl ⟨rfl, vs, SqL.of k4⟩, A i, vs, y, rfl, rfl, k4, by rw [hz]; exact hy, ?_⟩
  have h5 := k5.dropLast
  rw [List.dropLast_concat] at h5
  exact hn _ n _ _ A hN (ok.chg hd h5) (pu.upd k3 ⟨_, k4⟩)
/-- y = x.pop()[m], the last one a tuple -/
theorem es_popIx {x y : Str} {px py pm pc pk : Pos} {m : Int} {kk : Nat} (i j : Nat) {es : List PyData} (hd : δ[i]? = some (.own (ds ++ [.tuple es]))) (hm : atI es m = some d) (hN : N ((δ.set i (.own ds)).set j (.dat d)) n) (hnl : nl d = true) (nd : X.N.Nodup := by assumption) (hNi : X.N[i]? = some x := by rfl) (hNj : X.N[j]? = some y := by rfl)
    (hv : Vis X.env.scope x := by first | exact Or.inl rfl | exact Or.inr (Or.inl rfl) | exact Or.inr (Or.inr rfl)) (hy : Loc X.env.scope y := by first | exact Or.inl rfl | exact Or.inr rfl) (hfy : X.fn y = true ∨ X.env.scope.names.lookup y = some .local := by first | exact .inl rfl | exact .inr rfl)
    (h1 : (x == ("__debug__" : Str)) = false := by decide) (h2 : (x == ("__classdict__" : Str)) = false := by decide)
    (hbase : attributeBase (.Name x px) "pop" X.env (eval (.Name x px) X.env) = eval (.Name x px) X.env := by rfl) (hline : (pm.endLine == pc.line) = true := by rfl)
    {pos2 : Pos} (hsw : swapsWith (.Subscript (.Call (.Attribute (.Name x px) "pop" pm) [] [] pc) (.Constant (.int m) kk pk) pos2) (some (.Name y py)) pos.line X.env = pure false := by rfl) :
    ES X (.Assign [.Name y py] (.Subscript (.Call (.Attribute (.Name x px) "pop" pm) [] [] pc) (.Constant (.int m) kk pk) pos2) pos) δ n N R := fun p S H0 D σ H A ok pu hn hr => by
  refine sS_of (ps_set nd hNj hy (pe_ix ix_tup (pe_bm0 PySem.F.plainAttrs_list PySem.F.slot_list_pop PySem.F.type_list_pop mt_pop (pe_var hNi hv h1 h2) hbase hline) pe_int (fun _ _ => rfl)) hsw hfy) ?_
  obtain ⟨k1, k2, k3, vs, k4, k5⟩ := ok.own i _ hd
  have hz := k5.length
  rw [List.length_append, List.length_singleton] at hz
  obtain ⟨y, hy, ry⟩ := k5.get (i := ds.length) (d := .tuple es) (by rw [List.getElem?_append_right (Nat.le_refl _)]; simp)
  have h5 := k5.dropLast
  rw [List.dropLast_concat] at h5
  have ok2 := ok.chg hd h5
  cases ry with
  | @tup a ws _ t1 t2 =>
    refine ⟨_, k1, .inl ⟨rfl, vs, SqL.of k4⟩, A i, vs, .ref a, rfl, rfl, k4, by rw [hz]; exact hy, ?_⟩
    obtain ⟨jj, e1, e2, e3, e4, e5⟩ := atI_get hm
    obtain ⟨z, f1, f2⟩ := t2.get e2
    have hU : hide (fun a => S a ∨ owned δ A a) (upd H (A i) (.lst vs.dropLast)) = hide (fun a => S a ∨ owned δ A a) H := hide_upd (.inr ⟨i, _, hd, rfl⟩)
    refine ⟨a, ws, m, z, rfl, rfl, ?_, ?_, ?_⟩
    · rw [← hU] at t1
      exact same_sqt hide_le t1
    · unfold atI at hm ⊢
      rw [t2.length]
      cases c : ixN es.length m with
      | none => rw [c] at hm; cases hm
      | some q =>
        have := (ixN_seq c).1
        rw [e1] at this
        cases this
        exact f1
    · rw [← hU] at f2
      have g : Got X.K S (upd H (A i) (.lst vs.dropLast)) (upd H (A i) (.lst vs.dropLast)) z (.dat d) := f2.m (hide_anti fun a z => .inl z)
      obtain ⟨A', ok'⟩ := ok2.put (Same.refl _) g (i := j) (.inr hnl)
      exact hn _ n _ _ A' hN ok' (pu.upd k3 ⟨_, k4⟩)

/-! ## a def from its body -/
def startS (N : List Str) (ds : List PyData) : SEnv := ds.map Slot.dat ++ List.replicate (N.length - ds.length) Slot.unk
theorem startS_dat {N : List Str} {ds : List PyData} {i : Nat} {d : PyData} (h : (startS N ds)[i]? = some (.dat d)) : ds[i]? = some d := by
  unfold startS at h
  rw [List.getElem?_append] at h
  split at h
  · rw [List.getElem?_map] at h
    cases q : ds[i]? with
    | none => rw [q] at h; cases h
    | some e => rw [q] at h; cases h; rfl
  · have := List.mem_of_getElem? h
    rw [List.mem_replicate] at this
    cases this.2
theorem startS_own {N : List Str} {ds : List PyData} {i : Nat} {s : Slot} (h : (startS N ds)[i]? = some s) : (∃ d, s = .dat d) ∨ s = .unk := by
  have := List.mem_of_getElem? h
  unfold startS at this
  rcases List.mem_append.mp this with z | z
  · obtain ⟨d, _, e⟩ := List.mem_map.mp z
    exact .inl ⟨d, e.symm⟩
  · rw [List.mem_replicate] at z
    exact .inr z.2
theorem start_get {N : List Str} {vs : List V} {i : Nat} {v : V} (h : vs[i]? = some v) : (L2.start N vs)[i]? = some (some v) := by
  unfold L2.start
  have hi : i < vs.length := (List.getElem?_eq_some_iff.mp h).1
  rw [List.getElem?_append_left (by rw [List.length_map]; exact hi), List.getElem?_map, h] <;> rfl
end
section
variable {P : Program} {w : World} {K : PySem.W.Frag} {mg : Str → Option Value} {base : Heap}
theorem Fun.okR {x qual : Str} {st : Stmt} {f : Addr} {fd : FuncData} {N ps : List Str} {k : Nat} (F : Fun K x qual st f fd) (S : FnScope N ps (defScope st)) (fr : List PyData → Res → Prop) (hl : ∀ ds r, fr ds r → ds.length = ps.length)
    (body : ∀ (cdv : Value) (A : Around) (outer : List Env) (s : Shared) (H : Hp) (E : XK), Room k (A.deeper (envOfC qual (defScope st) s.heap.objs.size f cdv)) → ∀ ds r, fr ds r →
      EW (cxOf CX0 P w K mg base N qual (defScope st) f cdv A outer s H E).nox (defBody st) (startS N ds) .none (fun _ _ => r = .dat .none) (fun r' _ => r' = r)) : FnOk P w K mg base CX0 (k + 1) f fd ps (spR K fr) := by
  refine F.ok S (fun vs H Q E h => ?_) (fun cdv A outer s H vs Q E hr h => ?_)
  · obtain ⟨T, ds, r, h1, h2, h3, h4⟩ := h
    rw [h2.length]
    exact hl ds r h3
  · obtain ⟨T, ds, r, h1, h2, h3, h4⟩ := h
    refine ⟨_, pss_s, ?_⟩
    have hlen := h2.length
    refine body cdv A outer s H E hr ds r h3 0 T H _ _ H (fun _ => 0) ?_ trivial (fun δ' n' σ' H' A' hN ok' _ => ?_) (fun r' n' v H' hR s1 _ g => ?_)
    · refine { len := ?_, base := Same.refl H, hid := h1, dat := fun i d hd => ?_, own := fun i es he => ?_, inj := fun i j es es' he => ?_, pur := fun i he => ?_ }
      · unfold startS L2.start
        rw [List.length_append, List.length_append, List.length_map, List.length_map, List.length_replicate, List.length_replicate, hlen]
        exact Nat.le_refl _
      · obtain ⟨v, q1, q2⟩ := h2.get (startS_dat hd)
        refine ⟨v, start_get q1, q2.m (hide_anti fun a z => z.elim id fun ⟨j, es, k1, _⟩ => ?_)⟩
        rcases startS_own k1 with ⟨_, e⟩ | e <;> cases e
      · rcases startS_own he with ⟨_, e⟩ | e <;> cases e
      · rcases startS_own he with ⟨_, e⟩ | e <;> cases e
      · rcases startS_own he with ⟨_, e⟩ | e <;> cases e
    · subst hN
      exact h4 _ _ ok'.base .non
    · subst hR
      exact h4 _ _ s1 g
end
end PU
/-! the mathematics: types, letters, derivations, chains -/
namespace MM
open PySem

inductive Kd where
  | pl (w : Str)
  | ov (a b : Kd)
  | un (a b : Kd)
  | th (a b : Kd)
  deriving DecidableEq
inductive Wd where | ov | un | th
  deriving DecidableEq
def Wd.mk : Wd → Kd → Kd → Kd
  | .ov, a, b => .ov a b
  | .un, a, b => .un a b
  | .th, a, b => .th a b
def abc : List Nat := [97,98,99,100,101,102,103,104,105,106,107,108,109,110,111,112,113,114,115,116,117,118,119,120,121,122]
def okw (w : Str) : Bool := decide (0 < w.length) && decide (w.length < 9) && w.cps.toList.all fun c => decide (c ∈ abc)
namespace Kd
def ok : Kd → Bool
  | pl w => okw w
  | ov a b => ok a && ok b
  | un a b => ok a && ok b
  | th a b => ok a && ok b
def dep : Kd → Nat
  | pl _ => 0
  | ov a b => max (dep a) (dep b) + 1
  | un a b => max (dep a) (dep b) + 1
  | th a b => max (dep a) (dep b) + 1
def sg : Kd → Nat
  | pl _ => 0
  | ov a b => sg a + sg b + 1
  | un a b => sg a + sg b + 1
  | th a b => sg a + sg b + 1
theorem dep_sg : ∀ k : Kd, k.dep ≤ k.sg
  | pl _ => Nat.le_refl _
  | ov a b => by have := dep_sg a; have := dep_sg b; unfold dep sg; omega
  | un a b => by have := dep_sg a; have := dep_sg b; unfold dep sg; omega
  | th a b => by have := dep_sg a; have := dep_sg b; unfold dep sg; omega
end Kd
theorem mk_ok {w : Wd} {a b : Kd} : (w.mk a b).ok = (a.ok && b.ok) := by cases w <;> rfl
theorem mk_dep {w : Wd} {a b : Kd} : (w.mk a b).dep = max a.dep b.dep + 1 := by cases w <;> rfl

/-! ## letters: the free group -/
abbrev Lt := Str × Bool
def iv (x : Lt) : Lt := (x.1, !x.2)
theorem iv_iv (x : Lt) : iv (iv x) = x := by unfold iv; rw [Bool.not_not]
theorem iv_ne (x : Lt) : iv x ≠ x := fun e => by
  have := congrArg Prod.snd e
  cases h : x.2 <;> simp [iv, h] at this
def ivl (l : List Lt) : List Lt := (l.map iv).reverse
theorem ivl_ivl (l : List Lt) : ivl (ivl l) = l := by
  unfold ivl
  rw [List.map_reverse, List.reverse_reverse, List.map_map]
  have : (iv ∘ iv) = id := funext iv_iv
  rw [this, List.map_id]
theorem ivl_append (a b : List Lt) : ivl (a ++ b) = ivl b ++ ivl a := by unfold ivl; rw [List.map_append, List.reverse_append]
theorem ivl_cons (x : Lt) (l : List Lt) : ivl (x :: l) = ivl l ++ [iv x] := by unfold ivl; rw [List.map_cons, List.reverse_cons]
/-- a stack: the last letter at the head -/
def pushR : List Lt → Lt → List Lt
  | [], x => [x]
  | y :: t, x => if y = iv x then t else x :: y :: t
theorem pushR_cons (y : Lt) (t : List Lt) (x : Lt) : pushR (y :: t) x = if y = iv x then t else x :: y :: t := rfl
def putR (s ys : List Lt) : List Lt := ys.foldl pushR s
def RedS : List Lt → Prop
  | [] => True
  | [_] => True
  | x :: y :: t => y ≠ iv x ∧ RedS (y :: t)
theorem RedS.tail {x : Lt} {t : List Lt} (h : RedS (x :: t)) : RedS t := by
  cases t with
  | nil => trivial
  | cons y t => exact h.2
theorem red_push {s : List Lt} {x : Lt} (h : RedS s) : RedS (pushR s x) := by
  cases s with
  | nil => trivial
  | cons y t =>
    rw [pushR_cons]
    split
    · exact h.tail
    · rename_i c; exact ⟨c, h⟩
theorem red_put {ys : List Lt} : ∀ {s : List Lt}, RedS s → RedS (putR s ys) := by
  induction ys with
  | nil => intro s h; exact h
  | cons y ys ih => intro s h; exact ih (red_push h)
theorem push_push {s : List Lt} {x : Lt} (h : RedS s) : pushR (pushR s (iv x)) x = s := by
  cases s with
  | nil => show pushR [iv x] x = []; rw [pushR_cons, if_pos rfl]
  | cons y t =>
    by_cases c : y = iv (iv x)
    · have e : pushR (y :: t) (iv x) = t := by rw [pushR_cons, if_pos c]
      rw [e]
      rw [iv_iv] at c
      subst c
      cases t with
      | nil => rfl
      | cons z t => rw [pushR_cons, if_neg h.1]
    · have e : pushR (y :: t) (iv x) = iv x :: y :: t := by
        show (if y = iv (iv x) then t else iv x :: y :: t) = _
        rw [if_neg c]
      rw [e]
      show (if iv x = iv x then y :: t else _) = _
      rw [if_pos rfl]
theorem push_push' {s : List Lt} {x : Lt} (h : RedS s) : pushR (pushR s x) (iv x) = s := by
  have := push_push (s := s) (x := iv x) h
  rw [iv_iv] at this
  exact this
theorem put_append (s a b : List Lt) : putR s (a ++ b) = putR (putR s a) b := List.foldl_append
theorem put_one (s : List Lt) (x : Lt) : putR s [x] = pushR s x := rfl
theorem put_cancel (ys : List Lt) : ∀ {s : List Lt}, RedS s → putR s (ys ++ ivl ys) = s := by
  induction ys with
  | nil => intro s _; rfl
  | cons y ys ih =>
    intro s h
    rw [ivl_cons, List.cons_append]
    show putR (pushR s y) (ys ++ (ivl ys ++ [iv y])) = s
    rw [← List.append_assoc, put_append, ih (red_push h), put_one, push_push' h]
theorem put_cancel' (ys : List Lt) {s : List Lt} (h : RedS s) : putR s (ivl ys ++ ys) = s := by
  have := put_cancel (ivl ys) h
  rw [ivl_ivl] at this
  exact this
theorem put_pushR {s : List Lt} (h : RedS s) (t : List Lt) (x : Lt) : putR s (pushR t x).reverse = pushR (putR s t.reverse) x := by
  cases t with
  | nil => rfl
  | cons y t =>
    rw [pushR_cons]
    split
    · rename_i c
      subst c
      rw [List.reverse_cons, put_append, put_one]
      exact (push_push (red_put h)).symm
    · rw [List.reverse_cons, put_append, put_one]
theorem put_red {s : List Lt} (h : RedS s) (ys : List Lt) : ∀ t : List Lt, putR s (putR t ys).reverse = putR (putR s t.reverse) ys := by
  induction ys with
  | nil => intro t; rfl
  | cons y ys ih =>
    intro t
    show putR s (putR (pushR t y) ys).reverse = putR (pushR (putR s t.reverse) y) ys
    rw [ih, put_pushR h]
/-- the reduced word of a word -/
def red (ys : List Lt) : List Lt := (putR [] ys).reverse
theorem red_nil : RedS ([] : List Lt) := trivial
theorem put_red0 {s : List Lt} (h : RedS s) (ys : List Lt) : putR s (red ys) = putR s ys := put_red h ys []
theorem red_red (ys : List Lt) : red (red ys) = red ys := by
  show (putR [] (red ys)).reverse = (putR [] ys).reverse
  rw [put_red0 red_nil]
/-- one word in the free group -/
def eqG (xs ys : List Lt) : Prop := putR [] xs = putR [] ys
theorem eqG.put {xs ys : List Lt} (e : eqG xs ys) {s : List Lt} (h : RedS s) : putR s xs = putR s ys := by
  rw [← put_red0 h xs, ← put_red0 h ys]
  unfold red
  rw [show putR [] xs = putR [] ys from e]
theorem eqG.refl (xs : List Lt) : eqG xs xs := rfl
theorem eqG.symm {xs ys : List Lt} (e : eqG xs ys) : eqG ys xs := Eq.symm e
theorem eqG.trans {xs ys zs : List Lt} (e : eqG xs ys) (f : eqG ys zs) : eqG xs zs := Eq.trans e f
theorem eqG.app {xs ys us vs : List Lt} (e : eqG xs ys) (f : eqG us vs) : eqG (xs ++ us) (ys ++ vs) := by
  show putR [] (xs ++ us) = putR [] (ys ++ vs)
  rw [put_append, put_append, e.put red_nil, f.put (red_put red_nil)]
theorem eqG.red (xs : List Lt) : eqG (red xs) xs := put_red0 red_nil xs
theorem eqG.canc (ys : List Lt) : eqG (ys ++ ivl ys) [] := put_cancel ys red_nil
theorem eqG.canc' (ys : List Lt) : eqG (ivl ys ++ ys) [] := put_cancel' ys red_nil
theorem eqG.ivl {xs ys : List Lt} (e : eqG xs ys) : eqG (ivl xs) (ivl ys) := by
  have h1 : eqG (MM.ivl xs) (MM.ivl xs ++ (ys ++ MM.ivl ys)) := by
    have := (eqG.refl (MM.ivl xs)).app (eqG.canc ys).symm
    rw [List.append_nil] at this
    exact this
  have h2 : eqG (MM.ivl xs ++ (ys ++ MM.ivl ys)) (MM.ivl xs ++ (xs ++ MM.ivl ys)) := (eqG.refl _).app (e.symm.app (eqG.refl _))
  have h3 : eqG (MM.ivl xs ++ (xs ++ MM.ivl ys)) (MM.ivl ys) := by
    rw [← List.append_assoc]
    exact (eqG.canc' xs).app (eqG.refl (MM.ivl ys))
  exact h1.trans (h2.trans h3)
/-- as lists, the last letter at the end -/
def push (l : List Lt) (x : Lt) : List Lt := (pushR l.reverse x).reverse
def put (l ys : List Lt) : List Lt := (putR l.reverse ys).reverse
theorem put_nil (l : List Lt) : put l [] = l := List.reverse_reverse l
theorem put_snoc (l ys : List Lt) (x : Lt) : put l (ys ++ [x]) = push (put l ys) x := by
  unfold put push
  rw [put_append, put_one, List.reverse_reverse]
theorem put_cons (l ys : List Lt) (x : Lt) : put l (x :: ys) = put (push l x) ys := by
  unfold put push
  rw [List.reverse_reverse]
  rfl
theorem put_app (l a b : List Lt) : put l (a ++ b) = put (put l a) b := by
  unfold put
  rw [put_append, List.reverse_reverse]
theorem push_pop (l : List Lt) (x : Lt) : push (l ++ [iv x]) x = l := by
  unfold push
  rw [List.reverse_append, List.reverse_cons, List.reverse_nil, List.nil_append, List.cons_append, List.nil_append]
  show (if iv x = iv x then l.reverse else _).reverse = l
  rw [if_pos rfl, List.reverse_reverse]
theorem push_app (l : List Lt) (y x : Lt) (h : y ≠ iv x) : push (l ++ [y]) x = l ++ [y] ++ [x] := by
  unfold push
  rw [List.reverse_append, List.reverse_cons, List.reverse_nil, List.nil_append, List.cons_append, List.nil_append]
  show (if y = iv x then l.reverse else x :: y :: l.reverse).reverse = _
  rw [if_neg h, List.reverse_cons, List.reverse_cons, List.reverse_reverse]
theorem push_nil (x : Lt) : push [] x = [x] := rfl
theorem red_put_nil (ys : List Lt) : red ys = put [] ys := rfl
theorem push_len (l : List Lt) (x : Lt) : (push l x).length ≤ l.length + 1 := by
  unfold push
  rw [List.length_reverse]
  cases h : l.reverse with
  | nil => simp [pushR]
  | cons y t =>
    have e : l.length = t.length + 1 := by rw [← List.length_reverse, h, List.length_cons]
    rw [pushR_cons]
    split
    · omega
    · simp only [List.length_cons]; omega
theorem put_len (ys : List Lt) : ∀ l : List Lt, (put l ys).length ≤ l.length + ys.length := by
  induction ys with
  | nil => intro l; rw [put_nil]; exact Nat.le_refl _
  | cons y ys ih =>
    intro l
    rw [put_cons]
    have h1 := ih (push l y)
    have h2 := push_len l y
    rw [List.length_cons]
    omega

/-- the letters of a type, nothing cancelled -/
def unc : Kd → List Lt
  | .pl w => [(w, true)]
  | .ov a b => unc a ++ ivl (unc b)
  | .un a b => ivl (unc a) ++ unc b
  | .th a b => unc a ++ unc b
def lets (k : Kd) : List Lt := red (unc k)
theorem unc_len : ∀ k : Kd, (unc k).length = k.sg + 1
  | .pl _ => rfl
  | .ov a b => by have := unc_len a; have := unc_len b; unfold unc ivl Kd.sg; rw [List.length_append, List.length_reverse, List.length_map]; omega
  | .un a b => by have := unc_len a; have := unc_len b; unfold unc ivl Kd.sg; rw [List.length_append, List.length_reverse, List.length_map]; omega
  | .th a b => by have := unc_len a; have := unc_len b; unfold unc Kd.sg; rw [List.length_append]; omega
theorem lets_len (k : Kd) : (lets k).length ≤ k.sg + 1 := by
  have := put_len (unc k) []
  rw [unc_len] at this
  unfold lets
  rw [red_put_nil]
  simpa using this
theorem lets_eq {a b : Kd} : lets a = lets b ↔ eqG (unc a) (unc b) := by
  unfold lets red eqG
  constructor
  · intro h; have := congrArg List.reverse h; rw [List.reverse_reverse, List.reverse_reverse] at this; exact this
  · intro h; rw [h]
theorem lets_red (k : Kd) : RedS (lets k).reverse := by
  unfold lets red
  rw [List.reverse_reverse]
  exact red_put red_nil
/-- put L1 (lets of (L2 turned back)) behind: the letters are those of the whole -/
theorem put_lets {l ys : List Lt} (h : RedS l.reverse) : put l (red ys) = put l ys := by
  unfold put
  rw [put_red0 h]
theorem lets_th (a b : Kd) : lets (.th a b) = put (lets a) (lets b) := by
  have e : put (lets a) (lets b) = put (lets a) (unc b) := put_lets (lets_red a)
  rw [e]
  show red (unc a ++ unc b) = put (red (unc a)) (unc b)
  rw [red_put_nil, put_app, ← red_put_nil]
/-- over: the letters, with those of the second behind, are those of the first -/
theorem lets_ov (a b : Kd) : put (lets (.ov a b)) (lets b) = lets a := by
  have e : put (lets (.ov a b)) (lets b) = put (lets (.ov a b)) (unc b) := put_lets (lets_red (.ov a b))
  rw [e]
  show put (red (unc a ++ ivl (unc b))) (unc b) = red (unc a)
  unfold put red
  rw [List.reverse_reverse, ← put_append, List.append_assoc, put_append, put_cancel' _ (red_put red_nil)]
theorem lets_un (a b : Kd) : put (lets a) (lets (.un a b)) = lets b := by
  have e : put (lets a) (lets (.un a b)) = put (lets a) (ivl (unc a) ++ unc b) := put_lets (lets_red a)
  rw [e]
  show put (red (unc a)) (ivl (unc a) ++ unc b) = red (unc b)
  unfold put red
  rw [List.reverse_reverse, ← put_append, ← List.append_assoc, put_append, put_cancel _ red_nil]
theorem put_red_len (l : List Lt) (ys : List Lt) : (put [] ys).length ≤ ys.length := by
  have := put_len ys []
  simpa using this
theorem red_app_len (xs ys : List Lt) : (red (xs ++ ys)).length ≤ (red xs).length + (red ys).length := by
  have e : red (xs ++ ys) = put (red xs) (red ys) := by
    have h : RedS (red xs).reverse := by unfold red; rw [List.reverse_reverse]; exact red_put red_nil
    rw [put_lets h, red_put_nil, put_app, ← red_put_nil]
  rw [e]
  exact put_len _ _
theorem red_ivl_len (ys : List Lt) : (red (ivl ys)).length ≤ (red ys).length := by
  have e : red (ivl ys) = red (ivl (red ys)) := by
    have := (eqG.red ys).ivl
    unfold red eqG at *
    rw [this]
  rw [e, red_put_nil]
  refine Nat.le_trans (put_red_len [] _) ?_
  unfold ivl
  rw [List.length_reverse, List.length_map]
  exact Nat.le_refl _
theorem lets_ov_len (a b : Kd) : (lets (.ov a b)).length ≤ (lets a).length + (lets b).length := by
  have h1 := red_app_len (unc a) (ivl (unc b))
  have h2 := red_ivl_len (unc b)
  show (red (unc a ++ ivl (unc b))).length ≤ (red (unc a)).length + (red (unc b)).length
  omega
theorem lets_un_len (a b : Kd) : (lets (.un a b)).length ≤ (lets a).length + (lets b).length := by
  have h1 := red_app_len (ivl (unc a)) (unc b)
  have h2 := red_ivl_len (unc a)
  show (red (ivl (unc a) ++ unc b)).length ≤ (red (unc a)).length + (red (unc b)).length
  omega
end MM
namespace MM
open PySem Kd

inductive Dv where
  | is (k : Kd)
  | om (d : Dv)
  | um (d : Dv)
  | tm (a b : Dv)
  | ou (a b : Dv)
  | uu (a b : Dv)
  | tu (d : Dv)
  | ct (a b : Dv)
/-- d tells (row, goal), all types are of depth at most D, d of depth at most n -/
inductive Tl (D : Nat) : Nat → Dv → List Kd → Kd → Prop
  | is {n : Nat} {k : Kd} : k.ok = true → k.dep ≤ D → Tl D (n + 1) (.is k) [k] k
  | om {n : Nat} {d : Dv} {r : List Kd} {A B : Kd} : Tl D n d (r ++ [B]) A → r ≠ [] → (ov A B).dep ≤ D → Tl D (n + 1) (.om d) r (ov A B)
  | um {n : Nat} {d : Dv} {r : List Kd} {A B : Kd} : Tl D n d (B :: r) A → r ≠ [] → (un B A).dep ≤ D → Tl D (n + 1) (.um d) r (un B A)
  | tm {n : Nat} {a b : Dv} {x y : List Kd} {A B : Kd} : Tl D n a x A → Tl D n b y B → (th A B).dep ≤ D → x.length + y.length ≤ 4 → Tl D (n + 1) (.tm a b) (x ++ y) (th A B)
  | ou {n : Nat} {a b : Dv} {z r : List Kd} {A B g : Kd} : Tl D n a z B → Tl D n b (A :: r) g → (ov A B).dep ≤ D → z.length + r.length ≤ 3 → Tl D (n + 1) (.ou a b) (ov A B :: (z ++ r)) g
  | uu {n : Nat} {a b : Dv} {z r : List Kd} {A B g : Kd} : Tl D n a z B → Tl D n b (A :: r) g → (un B A).dep ≤ D → z.length + r.length ≤ 3 → Tl D (n + 1) (.uu a b) (z ++ un B A :: r) g
  | tu {n : Nat} {d : Dv} {r : List Kd} {A B g : Kd} : Tl D n d (A :: B :: r) g → (th A B).dep ≤ D → Tl D (n + 1) (.tu d) (th A B :: r) g
  | ct {n : Nat} {a b : Dv} {z r : List Kd} {B g : Kd} : Tl D n a z B → Tl D n b (B :: r) g → z.length + r.length ≤ 4 → Tl D (n + 1) (.ct a b) (z ++ r) g
theorem Tl.mono {D D' : Nat} (hD : D ≤ D') : ∀ {n n' : Nat} {d : Dv} {r : List Kd} {g : Kd}, n ≤ n' → Tl D n d r g → Tl D' n' d r g := by
  intro n n' d r g hn h
  induction h generalizing n' with
  | is h1 h2 => cases n' with | zero => omega | succ n' => exact .is h1 (Nat.le_trans h2 hD)
  | om h1 h2 h3 ih => cases n' with | zero => omega | succ n' => exact .om (ih (by omega)) h2 (Nat.le_trans h3 hD)
  | um h1 h2 h3 ih => cases n' with | zero => omega | succ n' => exact .um (ih (by omega)) h2 (Nat.le_trans h3 hD)
  | tm h1 h2 h3 h4 i1 i2 => cases n' with | zero => omega | succ n' => exact .tm (i1 (by omega)) (i2 (by omega)) (Nat.le_trans h3 hD) h4
  | ou h1 h2 h3 h4 i1 i2 => cases n' with | zero => omega | succ n' => exact .ou (i1 (by omega)) (i2 (by omega)) (Nat.le_trans h3 hD) h4
  | uu h1 h2 h3 h4 i1 i2 => cases n' with | zero => omega | succ n' => exact .uu (i1 (by omega)) (i2 (by omega)) (Nat.le_trans h3 hD) h4
  | tu h1 h2 ih => cases n' with | zero => omega | succ n' => exact .tu (ih (by omega)) (Nat.le_trans h2 hD)
  | ct h1 h2 h3 i1 i2 => cases n' with | zero => omega | succ n' => exact .ct (i1 (by omega)) (i2 (by omega)) h3
/-- what holds of all types in it -/
structure Good (D : Nat) (r : List Kd) (g : Kd) : Prop where
  gok : g.ok = true
  gdep : g.dep ≤ D
  rok : ∀ k ∈ r, k.ok = true ∧ k.dep ≤ D
  len : r.length ≤ 4
  pos : 0 < r.length
theorem ok2 {a b : Kd} (h : (a.ok && b.ok) = true) : a.ok = true ∧ b.ok = true := Bool.and_eq_true_iff.mp h
theorem ok2' {a b : Kd} (h1 : a.ok = true) (h2 : b.ok = true) : (a.ok && b.ok) = true := by rw [h1, h2] <;> rfl
theorem Tl.good {D n : Nat} {d : Dv} {r : List Kd} {g : Kd} (h : Tl D n d r g) : Good D r g := by
  induction h with
  | is h1 h2 => exact ⟨h1, h2, fun k hk => by rw [List.mem_singleton] at hk; subst hk; exact ⟨h1, h2⟩, by simp, by simp⟩
  | @om n d r A B h1 h2 h3 ih =>
    obtain ⟨a1, a2, a3, a4, a5⟩ := ih
    have hB := a3 B (List.mem_append_right _ List.mem_cons_self)
    rw [List.length_append] at a4
    exact ⟨ok2' a1 hB.1, h3, fun k hk => a3 k (List.mem_append_left _ hk), by omega, List.length_pos_iff.mpr h2⟩
  | @um n d r A B h1 h2 h3 ih =>
    obtain ⟨a1, a2, a3, a4, a5⟩ := ih
    have hB := a3 B List.mem_cons_self
    rw [List.length_cons] at a4
    exact ⟨ok2' hB.1 a1, h3, fun k hk => a3 k (List.mem_cons_of_mem _ hk), by omega, List.length_pos_iff.mpr h2⟩
  | tm h1 h2 h3 h4 i1 i2 =>
    refine ⟨ok2' i1.gok i2.gok, h3, fun k hk => ?_, by rw [List.length_append]; exact h4, by rw [List.length_append]; have := i1.pos; omega⟩
    rcases List.mem_append.mp hk with z | z
    · exact i1.rok k z
    · exact i2.rok k z
  | @ou n a b z r A B g h1 h2 h3 h4 i1 i2 =>
    have hA := i2.rok A List.mem_cons_self
    refine ⟨i2.gok, i2.gdep, fun k hk => ?_, by rw [List.length_cons, List.length_append]; omega, by simp⟩
    rcases List.mem_cons.mp hk with z | z
    · subst z; exact ⟨ok2' hA.1 i1.gok, h3⟩
    · rcases List.mem_append.mp z with z | z
      · exact i1.rok k z
      · exact i2.rok k (List.mem_cons_of_mem _ z)
  | @uu n a b z r A B g h1 h2 h3 h4 i1 i2 =>
    have hA := i2.rok A List.mem_cons_self
    refine ⟨i2.gok, i2.gdep, fun k hk => ?_, by rw [List.length_append, List.length_cons]; omega, by rw [List.length_append, List.length_cons]; omega⟩
    rcases List.mem_append.mp hk with z | z
    · exact i1.rok k z
    · rcases List.mem_cons.mp z with z | z
      · subst z; exact ⟨ok2' i1.gok hA.1, h3⟩
      · exact i2.rok k (List.mem_cons_of_mem _ z)
  | @tu n d r A B g h1 h2 ih =>
    have hA := ih.rok A List.mem_cons_self
    have hB := ih.rok B (List.mem_cons_of_mem _ List.mem_cons_self)
    have hl := ih.len
    rw [List.length_cons, List.length_cons] at hl
    refine ⟨ih.gok, ih.gdep, fun k hk => ?_, by rw [List.length_cons]; omega, by simp⟩
    rcases List.mem_cons.mp hk with z | z
    · subst z; exact ⟨ok2' hA.1 hB.1, h2⟩
    · exact ih.rok k (List.mem_cons_of_mem _ (List.mem_cons_of_mem _ z))
  | @ct n a b z r B g h1 h2 h3 i1 i2 =>
    refine ⟨i2.gok, i2.gdep, fun k hk => ?_, by rw [List.length_append]; exact h3, by rw [List.length_append]; have := i1.pos; omega⟩
    rcases List.mem_append.mp hk with z | z
    · exact i1.rok k z
    · exact i2.rok k (List.mem_cons_of_mem _ z)
/-- letters are kept -/
def uncs (r : List Kd) : List Lt := r.flatMap unc
theorem uncs_cons (k : Kd) (r : List Kd) : uncs (k :: r) = unc k ++ uncs r := rfl
theorem uncs_app (r s : List Kd) : uncs (r ++ s) = uncs r ++ uncs s := List.flatMap_append
theorem uncs_nil : uncs [] = [] := rfl
theorem Tl.lets {D n : Nat} {d : Dv} {r : List Kd} {g : Kd} (h : Tl D n d r g) : eqG (uncs r) (unc g) := by
  induction h with
  | is => rw [uncs_cons, uncs_nil, List.append_nil]; exact eqG.refl _
  | @om n d r A B h1 h2 h3 ih =>
    rw [uncs_app, uncs_cons, uncs_nil, List.append_nil] at ih
    have e1 : eqG (uncs r) (uncs r ++ (unc B ++ ivl (unc B))) := by
      have := (eqG.refl (uncs r)).app (eqG.canc (unc B)).symm
      rw [List.append_nil] at this
      exact this
    refine e1.trans ?_
    rw [← List.append_assoc]
    exact ih.app (eqG.refl _)
  | @um n d r A B h1 h2 h3 ih =>
    rw [uncs_cons] at ih
    have e1 : eqG (uncs r) ((ivl (unc B) ++ unc B) ++ uncs r) := (eqG.canc' (unc B)).symm.app (eqG.refl (uncs r))
    refine e1.trans ?_
    rw [List.append_assoc]
    exact (eqG.refl _).app ih
  | tm h1 h2 h3 h4 i1 i2 => rw [uncs_app]; exact i1.app i2
  | @ou n a b z r A B g h1 h2 h3 h4 i1 i2 =>
    rw [uncs_cons] at i2
    rw [uncs_cons, uncs_app]
    show eqG ((unc A ++ ivl (unc B)) ++ (uncs z ++ uncs r)) (unc g)
    refine eqG.trans ?_ i2
    rw [List.append_assoc]
    refine (eqG.refl _).app ?_
    rw [← List.append_assoc]
    exact (((eqG.refl (ivl (unc B))).app i1).trans (eqG.canc' _)).app (eqG.refl (uncs r))
  | @uu n a b z r A B g h1 h2 h3 h4 i1 i2 =>
    rw [uncs_cons] at i2
    rw [uncs_app, uncs_cons]
    show eqG (uncs z ++ ((ivl (unc B) ++ unc A) ++ uncs r)) (unc g)
    refine eqG.trans ?_ i2
    rw [List.append_assoc, ← List.append_assoc]
    have := ((i1.app (eqG.refl (ivl (unc B)))).trans (eqG.canc _)).app (eqG.refl (unc A ++ uncs r))
    exact this
  | @tu n d r A B g h1 h2 ih =>
    rw [uncs_cons, uncs_cons] at ih
    rw [uncs_cons]
    show eqG ((unc A ++ unc B) ++ uncs r) (unc g)
    rw [List.append_assoc]
    exact ih
  | ct h1 h2 h3 i1 i2 =>
    rw [uncs_cons] at i2
    rw [uncs_app]
    exact (i1.app (eqG.refl _)).trans i2

/-! ## what a derivation tells, as a function -/
def bot : Kd := .pl ⟨#[]⟩
def tell : Dv → List Kd × Kd
  | .is k => ([k], k)
  | .om d => ((tell d).1.dropLast, ov (tell d).2 ((tell d).1.getLastD bot))
  | .um d => ((tell d).1.tail, un ((tell d).1.headD bot) (tell d).2)
  | .tm a b => ((tell a).1 ++ (tell b).1, th (tell a).2 (tell b).2)
  | .ou a b => (ov ((tell b).1.headD bot) (tell a).2 :: ((tell a).1 ++ (tell b).1.tail), (tell b).2)
  | .uu a b => ((tell a).1 ++ un (tell a).2 ((tell b).1.headD bot) :: (tell b).1.tail, (tell b).2)
  | .tu d => (th ((tell d).1.headD bot) ((tell d).1.tail.headD bot) :: (tell d).1.tail.tail, (tell d).2)
  | .ct a b => ((tell a).1 ++ (tell b).1.tail, (tell b).2)
theorem Tl.tell {D n : Nat} {d : Dv} {r : List Kd} {g : Kd} (h : Tl D n d r g) : tell d = (r, g) := by
  induction h with
  | is => rfl
  | om h1 h2 h3 ih => unfold MM.tell; rw [ih]; simp [List.dropLast_concat]
  | um h1 h2 h3 ih => unfold MM.tell; rw [ih]; rfl
  | tm h1 h2 h3 h4 i1 i2 => unfold MM.tell; rw [i1, i2]
  | ou h1 h2 h3 h4 i1 i2 => unfold MM.tell; rw [i1, i2]; rfl
  | uu h1 h2 h3 h4 i1 i2 => unfold MM.tell; rw [i1, i2]; rfl
  | tu h1 h2 ih => unfold MM.tell; rw [ih]; rfl
  | ct h1 h2 h3 i1 i2 => unfold MM.tell; rw [i1, i2]; rfl

/-! ## steps and chains -/
abbrev Step := Bool × Dv
abbrev Chain := List Step
def SOk (D n : Nat) (s : Step) (a b : Kd) : Prop := if s.1 = true then Tl D n s.2 [a] b else Tl D n s.2 [b] a
def ends (s : Step) : Kd × Kd := if s.1 = true then ((tell s.2).1.headD bot, (tell s.2).2) else ((tell s.2).2, (tell s.2).1.headD bot)
theorem SOk.ends {D n : Nat} {s : Step} {a b : Kd} (h : SOk D n s a b) : ends s = (a, b) := by
  obtain ⟨w, d⟩ := s
  cases w with
  | true => have h : Tl D n d [a] b := h; unfold MM.ends; rw [if_pos rfl, h.tell]; rfl
  | false => have h : Tl D n d [b] a := h; unfold MM.ends; rw [if_neg (by simp), h.tell]; rfl
theorem SOk.mono {D D' n n' : Nat} {s : Step} {a b : Kd} (hD : D ≤ D') (hn : n ≤ n') (h : SOk D n s a b) : SOk D' n' s a b := by
  obtain ⟨w, d⟩ := s
  cases w with
  | true => exact Tl.mono hD hn (show Tl D n d [a] b from h)
  | false => exact Tl.mono hD hn (show Tl D n d [b] a from h)
theorem SOk.good {D n : Nat} {s : Step} {a b : Kd} (h : SOk D n s a b) : (a.ok = true ∧ a.dep ≤ D) ∧ (b.ok = true ∧ b.dep ≤ D) := by
  obtain ⟨w, d⟩ := s
  cases w with
  | true => have g := (show Tl D n d [a] b from h).good; exact ⟨g.rok a List.mem_cons_self, g.gok, g.gdep⟩
  | false => have g := (show Tl D n d [b] a from h).good; exact ⟨⟨g.gok, g.gdep⟩, g.rok b List.mem_cons_self⟩
theorem SOk.lets {D n : Nat} {s : Step} {a b : Kd} (h : SOk D n s a b) : lets a = lets b := by
  obtain ⟨w, d⟩ := s
  cases w with
  | true =>
    have g := (show Tl D n d [a] b from h).lets
    rw [uncs_cons, uncs_nil, List.append_nil] at g
    exact lets_eq.mpr g
  | false =>
    have g := (show Tl D n d [b] a from h).lets
    rw [uncs_cons, uncs_nil, List.append_nil] at g
    exact (lets_eq.mpr g).symm
def Path (D n : Nat) : Chain → Kd → Kd → Prop
  | [], a, b => a = b
  | s :: c, a, b => ∃ m, SOk D n s a m ∧ Path D n c m b
theorem Path.one {D n : Nat} {s : Step} {a b : Kd} (h : SOk D n s a b) : Path D n [s] a b := ⟨b, h, rfl⟩
theorem Path.app {D n : Nat} : ∀ {c e : Chain} {a b d : Kd}, Path D n c a b → Path D n e b d → Path D n (c ++ e) a d
  | [], _, _, _, _, h, h2 => by cases (show _ = _ from h); exact h2
  | s :: c, e, _, _, _, ⟨m, h, h'⟩, h2 => ⟨m, h, Path.app h' h2⟩
theorem Path.mono {D D' n n' : Nat} (hD : D ≤ D') (hn : n ≤ n') : ∀ {c : Chain} {a b : Kd}, Path D n c a b → Path D' n' c a b
  | [], _, _, h => h
  | s :: c, _, _, ⟨m, h, h'⟩ => ⟨m, h.mono hD hn, Path.mono hD hn h'⟩
theorem Path.lets {D n : Nat} : ∀ {c : Chain} {a b : Kd}, Path D n c a b → lets a = lets b
  | [], _, _, h => by cases (show _ = _ from h); rfl
  | s :: c, _, _, ⟨m, h, h'⟩ => h.lets.trans (Path.lets h')
def flip (s : Step) : Step := (!s.1, s.2)
theorem SOk.flip {D n : Nat} {s : Step} {a b : Kd} (h : SOk D n s a b) : SOk D n (flip s) b a := by
  obtain ⟨w, d⟩ := s
  cases w with
  | true => exact (show Tl D n d [a] b from h)
  | false => exact (show Tl D n d [b] a from h)
def turned (c : Chain) : Chain := c.reverse.map flip
theorem turned_cons (s : Step) (c : Chain) : turned (s :: c) = turned c ++ [flip s] := by unfold turned; rw [List.reverse_cons, List.map_append] <;> rfl
theorem turned_len (c : Chain) : (turned c).length = c.length := by unfold turned; rw [List.length_map, List.length_reverse]
theorem Path.turned {D n : Nat} : ∀ {c : Chain} {a b : Kd}, Path D n c a b → Path D n (turned c) b a
  | [], _, _, h => Eq.symm h
  | s :: c, _, _, ⟨m, h, h'⟩ => by
    rw [turned_cons]
    exact (Path.turned h').app (Path.one h.flip)

/-! ## the program's steps -/
def behindUp (a b : Kd) : Step := (true, .om (.tm (.is a) (.is b)))
def aheadUp (a b : Kd) : Step := (true, .um (.tm (.is b) (.is a)))
def gath (a b c : Kd) : Step := (true, .tu (.tu (.tm (.is a) (.tm (.is b) (.is c)))))
theorem tl_is {D n : Nat} {k : Kd} (h : k.ok = true) (h2 : k.dep ≤ D) (hn : 1 ≤ n) : Tl D n (.is k) [k] k := by
  cases n with
  | zero => omega
  | succ n => exact .is h h2
theorem sok_behind {D n : Nat} {a b : Kd} (ha : a.ok = true) (hb : b.ok = true) (hd : max a.dep b.dep + 2 ≤ D) (hn : 3 ≤ n) : SOk D n (behindUp a b) a (ov (th a b) b) := by
  show Tl D n (.om (.tm (.is a) (.is b))) [a] (ov (th a b) b)
  obtain ⟨m, rfl⟩ : ∃ m, n = m + 3 := ⟨n - 3, by omega⟩
  refine Tl.mono (Nat.le_refl D) (Nat.le_refl _) (.om (r := [a]) (B := b) (.tm (tl_is (n := m + 1) ha (by omega) (by omega)) (tl_is (n := m + 1) hb (by omega) (by omega)) (by unfold dep; omega) (by simp)) (by simp) (by simp only [dep]; omega))
theorem sok_ahead {D n : Nat} {a b : Kd} (ha : a.ok = true) (hb : b.ok = true) (hd : max a.dep b.dep + 2 ≤ D) (hn : 3 ≤ n) : SOk D n (aheadUp a b) a (un b (th b a)) := by
  show Tl D n (.um (.tm (.is b) (.is a))) [a] (un b (th b a))
  obtain ⟨m, rfl⟩ : ∃ m, n = m + 3 := ⟨n - 3, by omega⟩
  refine Tl.mono (Nat.le_refl D) (Nat.le_refl _) (.um (r := [a]) (B := b) (.tm (x := [b]) (y := [a]) (tl_is (n := m + 1) hb (by omega) (by omega)) (tl_is (n := m + 1) ha (by omega) (by omega)) (by unfold dep; omega) (by simp)) (by simp) (by simp only [dep]; omega))
theorem sok_gath {D n : Nat} {a b c : Kd} (ha : a.ok = true) (hb : b.ok = true) (hc : c.ok = true) (hd : max a.dep (max b.dep c.dep) + 2 ≤ D) (hn : 5 ≤ n) : SOk D n (gath a b c) (th (th a b) c) (th a (th b c)) := by
  show Tl D n (.tu (.tu (.tm (.is a) (.tm (.is b) (.is c))))) [th (th a b) c] (th a (th b c))
  obtain ⟨m, rfl⟩ : ∃ m, n = m + 5 := ⟨n - 5, by omega⟩
  have h1 : Tl D (m + 2) (.tm (.is b) (.is c)) [b, c] (th b c) := .tm (x := [b]) (y := [c]) (tl_is hb (by omega) (by omega)) (tl_is hc (by omega) (by omega)) (by unfold dep; omega) (by simp)
  have h2 : Tl D (m + 3) (.tm (.is a) (.tm (.is b) (.is c))) [a, b, c] (th a (th b c)) := .tm (x := [a]) (y := [b, c]) (tl_is ha (by omega) (by omega)) h1 (by simp only [dep]; omega) (by simp)
  exact .tu (.tu h2 (by unfold dep; omega)) (by simp only [dep]; omega)
def ledFirst (d : Dv) (w : Wd) (k : Kd) : Dv × Bool := match w with
  | .ov => (.om (.ou (.is k) d), true)
  | .un => (.um (.uu d (.is k)), false)
  | .th => (.tu (.tm d (.is k)), true)
def ledSecond (d : Dv) (w : Wd) (k : Kd) : Dv × Bool := match w with
  | .ov => (.om (.ou d (.is k)), false)
  | .un => (.um (.uu (.is k) d), true)
  | .th => (.tu (.tm (.is k) d), true)
def ledS (w : Wd) (k : Kd) (side : Bool) (s : Step) : Step :=
  let t := if side then ledSecond s.2 w k else ledFirst s.2 w k
  (if t.2 then s.1 else !s.1, t.1)
def led (c : Chain) (w : Wd) (k : Kd) (side : Bool) : Chain := c.map (ledS w k side)
def mks (w : Wd) (k : Kd) (side : Bool) (a : Kd) : Kd := if side then w.mk k a else w.mk a k
theorem tl_first {D n : Nat} {d : Dv} {w : Wd} {k a b : Kd} (h : Tl D (n + 1) d [a] b) (hk : k.ok = true) (hd : k.dep ≤ D) : if (ledFirst d w k).2 = true then Tl (D + 1) (n + 3) (ledFirst d w k).1 [w.mk a k] (w.mk b k) else Tl (D + 1) (n + 3) (ledFirst d w k).1 [w.mk b k] (w.mk a k) := by
  have g := h.good
  have ga := g.rok a List.mem_cons_self
  have gb := g.gdep
  have h' := h.mono (Nat.le_succ D) (Nat.le_refl _)
  cases w with
  | ov => exact Tl.om (r := [ov a k]) (B := k) (.ou (z := [k]) (r := []) (tl_is hk (by omega) (by omega)) h' (by simp only [dep]; omega) (by simp)) (by simp) (by simp only [dep]; omega)
  | un => exact Tl.um (r := [un b k]) (B := a) (.uu (z := [a]) (r := []) h' (tl_is hk (by omega) (by omega)) (by simp only [dep]; omega) (by simp)) (by simp) (by simp only [dep]; omega)
  | th => exact Tl.tu (r := []) (.tm (x := [a]) (y := [k]) h' (tl_is hk (by omega) (by omega)) (by simp only [dep]; omega) (by simp)) (by simp only [dep]; omega)
theorem tl_second {D n : Nat} {d : Dv} {w : Wd} {k a b : Kd} (h : Tl D (n + 1) d [a] b) (hk : k.ok = true) (hd : k.dep ≤ D) : if (ledSecond d w k).2 = true then Tl (D + 1) (n + 3) (ledSecond d w k).1 [w.mk k a] (w.mk k b) else Tl (D + 1) (n + 3) (ledSecond d w k).1 [w.mk k b] (w.mk k a) := by
  have g := h.good
  have ga := g.rok a List.mem_cons_self
  have gb := g.gdep
  have h' := h.mono (Nat.le_succ D) (Nat.le_refl _)
  cases w with
  | ov => exact Tl.om (r := [ov k b]) (B := a) (.ou (z := [a]) (r := []) h' (tl_is hk (by omega) (by omega)) (by simp only [dep]; omega) (by simp)) (by simp) (by simp only [dep]; omega)
  | un => exact Tl.um (r := [un k a]) (B := k) (.uu (z := [k]) (r := []) (tl_is hk (by omega) (by omega)) h' (by simp only [dep]; omega) (by simp)) (by simp) (by simp only [dep]; omega)
  | th => exact Tl.tu (r := []) (.tm (x := [k]) (y := [a]) (tl_is hk (by omega) (by omega)) h' (by simp only [dep]; omega) (by simp)) (by simp only [dep]; omega)
theorem sok_led {D n : Nat} {s : Step} {w : Wd} {k a b : Kd} {side : Bool} (h : SOk D (n + 1) s a b) (hk : k.ok = true) (hd : k.dep ≤ D) : SOk (D + 1) (n + 3) (ledS w k side s) (mks w k side a) (mks w k side b) := by
  obtain ⟨g, d⟩ := s
  cases side with
  | false =>
    cases g with
    | true => have q := tl_first (w := w) (show Tl D (n + 1) d [a] b from h) hk hd; cases w <;> exact q
    | false => have q := tl_first (w := w) (show Tl D (n + 1) d [b] a from h) hk hd; cases w <;> exact q
  | true =>
    cases g with
    | true => have q := tl_second (w := w) (show Tl D (n + 1) d [a] b from h) hk hd; cases w <;> exact q
    | false => have q := tl_second (w := w) (show Tl D (n + 1) d [b] a from h) hk hd; cases w <;> exact q
theorem Path.led {D n : Nat} {w : Wd} {k : Kd} {side : Bool} (hk : k.ok = true) (hd : k.dep ≤ D) : ∀ {c : Chain} {a b : Kd}, Path D (n + 1) c a b → Path (D + 1) (n + 3) (led c w k side) (mks w k side a) (mks w k side b)
  | [], _, _, h => by cases (show _ = _ from h); rfl
  | s :: c, _, _, ⟨m, h, h'⟩ => ⟨_, sok_led h hk hd, Path.led hk hd h'⟩
theorem led_len (c : Chain) (w : Wd) (k : Kd) (side : Bool) : (led c w k side).length = c.length := List.length_map _
end MM
namespace MM
open PySem Kd

/-! ## how many steps go one way -/
def cnt (w : Bool) (c : Chain) : Nat := c.countP fun s => s.1 == w
theorem cnt_app (w : Bool) (c e : Chain) : cnt w (c ++ e) = cnt w c + cnt w e := List.countP_append
theorem cnt_nil (w : Bool) : cnt w [] = 0 := rfl
theorem cnt_cons (w : Bool) (s : Step) (c : Chain) : cnt w (s :: c) = cnt w c + (if s.1 = w then 1 else 0) := by
  unfold cnt
  rw [List.countP_cons]
  by_cases h : s.1 = w
  · rw [if_pos h, if_pos (beq_iff_eq.mpr h)]
  · rw [if_neg h, if_neg (fun e => h (beq_iff_eq.mp e))]
theorem cnt_le (w : Bool) (c : Chain) : cnt w c ≤ c.length := List.countP_le_length
theorem cnt_two (c : Chain) : cnt true c + cnt false c = c.length := by
  induction c with
  | nil => rfl
  | cons s c ih =>
    rw [cnt_cons, cnt_cons, List.length_cons]
    cases h : s.1 <;> simp <;> omega
theorem cnt_turned (w : Bool) : ∀ c : Chain, cnt w (turned c) = cnt (!w) c
  | [] => rfl
  | s :: c => by
    rw [turned_cons, cnt_app, cnt_turned w c, cnt_cons, cnt_cons, cnt_nil]
    unfold flip
    cases s.1 <;> cases w <;> simp
/-- the two counts together -/
def both (c : Chain) : Nat := max (cnt true c) (cnt false c)
theorem ledS_way (w : Wd) (k : Kd) (side : Bool) : (∀ s : Step, (ledS w k side s).1 = s.1) ∨ (∀ s : Step, (ledS w k side s).1 = !s.1) := by
  cases w <;> cases side <;> first | exact .inl fun _ => rfl | exact .inr fun _ => rfl
theorem cnt_led_id (u : Bool) {w : Wd} {k : Kd} {side : Bool} (key : ∀ s : Step, (ledS w k side s).1 = s.1) (c : Chain) : cnt u (led c w k side) = cnt u c := by
  induction c with
  | nil => rfl
  | cons s c ih =>
    show cnt u (ledS w k side s :: led c w k side) = _
    rw [cnt_cons, cnt_cons, ih, key]
theorem cnt_led_not (u : Bool) {w : Wd} {k : Kd} {side : Bool} (key : ∀ s : Step, (ledS w k side s).1 = !s.1) (c : Chain) : cnt u (led c w k side) = cnt (!u) c := by
  induction c with
  | nil => rfl
  | cons s c ih =>
    show cnt u (ledS w k side s :: led c w k side) = _
    rw [cnt_cons, cnt_cons, ih, key]
    cases s.1 <;> cases u <;> rfl
theorem cnt_led_le (u : Bool) (w : Wd) (k : Kd) (side : Bool) (c : Chain) : cnt u (led c w k side) ≤ both c := by
  have h : cnt u (led c w k side) = cnt u c ∨ cnt u (led c w k side) = cnt (!u) c := (ledS_way w k side).elim (fun key => .inl (cnt_led_id u key c)) fun key => .inr (cnt_led_not u key c)
  unfold both
  rcases h with h | h <;> rw [h] <;> cases u <;> (try rw [Bool.not_true]) <;> (try rw [Bool.not_false]) <;> omega

/-! ## the program's chains -/
def cutBehind (c : Chain) (one other common : Kd) : Chain := behindUp one common :: (led c .ov common false ++ turned [behindUp other common])
def cutAhead (c : Chain) (one other common : Kd) : Chain := aheadUp one common :: (led c .un common true ++ turned [aheadUp other common])
def unitUsed (other : Kd) : Dv := .tu (.ou (.is other) (.is other))
def unitBehind (one other : Kd) : Chain :=
  cutBehind [gath one (ov other other) other, (true, .tu (.tm (.is one) (unitUsed other)))] (th one (ov other other)) one other
def unitAhead (one other : Kd) : Chain :=
  cutAhead (turned [gath other (ov other other) one] ++ led (unitBehind other other) .th one false) (th (ov other other) one) one other
def lk (x : Lt) (p : Str) : Kd := if x.2 = true then pl x.1 else ov (ov (pl p) (pl p)) (pl x.1)
def unitK (p : Str) : Kd := ov (pl p) (pl p)
def pairUsed (w p : Str) : Dv := .tu (.ou (.is (pl w)) (.is (unitK p)))
def pairGone (x : Lt) (p : Str) : Chain :=
  if x.2 = false then [(true, pairUsed x.1 p)]
  else cutBehind ([gath (lk x p) (lk (iv x) p) (lk x p), (true, .tu (.tm (.is (lk x p)) (pairUsed x.1 p)))] ++ unitBehind (lk x p) (pl p) ++ turned (unitAhead (lk x p) (pl p)))
    (th (lk x p) (lk (iv x) p)) (unitK p) (lk x p)
def form (l : List Lt) (p : Str) : Kd := match l with
  | [] => unitK p
  | x :: r => r.foldl (fun k y => th k (lk y p)) (lk x p)
theorem form_snoc (l : List Lt) (x : Lt) (p : Str) (h : l ≠ []) : form (l ++ [x]) p = th (form l p) (lk x p) := by
  cases l with
  | nil => exact absurd rfl h
  | cons y r =>
    show (r ++ [x]).foldl _ _ = _
    rw [List.foldl_append] <;> rfl
theorem form_one (x : Lt) (p : Str) : form [x] p = lk x p := rfl
def oneMore (l : List Lt) (x : Lt) (p : Str) : Chain :=
  if l = [] then unitAhead (lk x p) (pl p)
  else if l.getLast? ≠ some (iv x) then []
  else if l.length = 1 then pairGone (l.headD x) p
  else [gath (form l.dropLast p) (lk (l.getLastD x) p) (lk x p)] ++ led (pairGone (l.getLastD x) p) .th (form l.dropLast p) true ++ unitBehind (form l.dropLast p) (pl p)
/-- the other letters come with the last one at the head -/
def twoFormsR (one : List Lt) (p : Str) : List Lt → Chain
  | [] => unitBehind (form one p) (pl p)
  | [x] => oneMore one x p
  | x :: y :: t => turned [gath (form one p) (form (y :: t).reverse p) (lk x p)] ++ led (twoFormsR one p (y :: t)) .th (lk x p) false ++ oneMore (put one (y :: t).reverse) x p
def twoForms (one other : List Lt) (p : Str) : Chain := twoFormsR one p other.reverse
def toForm (p : Str) : Kd → Chain
  | .pl _ => []
  | .th a b => led (toForm p a) .th b false ++ led (toForm p b) .th (form (lets a) p) true ++ twoForms (lets a) (lets b) p
  | .ov a b => led (toForm p a) .ov b false ++ led (toForm p b) .ov (form (lets a) p) true ++
      cutBehind ([(true, .tu (.ou (.is (form (lets b) p)) (.is (form (lets a) p))))] ++ turned (twoForms (lets (ov a b)) (lets b) p)) (ov (form (lets a) p) (form (lets b) p)) (form (lets (ov a b)) p) (form (lets b) p)
  | .un a b => led (toForm p a) .un b false ++ led (toForm p b) .un (form (lets a) p) true ++
      cutAhead ([(true, .tu (.uu (.is (form (lets a) p)) (.is (form (lets b) p))))] ++ turned (twoForms (lets a) (lets (un a b)) p)) (un (form (lets a) p) (form (lets b) p)) (form (lets (un a b)) p) (form (lets a) p)

/-! ## they lead where they should -/
theorem path_cutBehind {D n : Nat} {c : Chain} {one other common : Kd} (h : Path D (n + 1) c (th one common) (th other common)) (h1 : one.ok = true) (h2 : other.ok = true) (h3 : common.ok = true)
    (d1 : one.dep + 1 ≤ D) (d2 : other.dep + 1 ≤ D) (d3 : common.dep + 1 ≤ D) : Path (D + 1) (n + 3) (cutBehind c one other common) one other := by
  refine ⟨_, sok_behind h1 h3 (by omega) (by omega), ?_⟩
  refine Path.app (Path.led (w := .ov) (side := false) h3 (by omega) h) ?_
  exact Path.turned (Path.one (sok_behind h2 h3 (by omega) (by omega)))
theorem path_cutAhead {D n : Nat} {c : Chain} {one other common : Kd} (h : Path D (n + 1) c (th common one) (th common other)) (h1 : one.ok = true) (h2 : other.ok = true) (h3 : common.ok = true)
    (d1 : one.dep + 1 ≤ D) (d2 : other.dep + 1 ≤ D) (d3 : common.dep + 1 ≤ D) : Path (D + 1) (n + 3) (cutAhead c one other common) one other := by
  refine ⟨_, sok_ahead h1 h3 (by omega) (by omega), ?_⟩
  refine Path.app (Path.led (w := .un) (side := true) h3 (by omega) h) ?_
  exact Path.turned (Path.one (sok_ahead h2 h3 (by omega) (by omega)))
theorem ovok {a b : Kd} (h1 : a.ok = true) (h2 : b.ok = true) : (ov a b).ok = true := ok2' h1 h2
theorem unok {a b : Kd} (h1 : a.ok = true) (h2 : b.ok = true) : (un a b).ok = true := ok2' h1 h2
theorem thok {a b : Kd} (h1 : a.ok = true) (h2 : b.ok = true) : (th a b).ok = true := ok2' h1 h2
theorem dep_ov {a b : Kd} : (ov a b).dep = max a.dep b.dep + 1 := rfl
theorem dep_un {a b : Kd} : (un a b).dep = max a.dep b.dep + 1 := rfl
theorem dep_th {a b : Kd} : (th a b).dep = max a.dep b.dep + 1 := rfl
/-- (a over b) then b gives a -/
theorem tl_ov {D n : Nat} {a b : Kd} (h1 : a.ok = true) (h2 : b.ok = true) (hd : max a.dep b.dep + 2 ≤ D) : Tl D (n + 3) (.tu (.ou (.is b) (.is a))) [th (ov a b) b] a :=
  .tu (r := []) (.ou (z := [b]) (r := []) (tl_is h2 (by omega) (by omega)) (tl_is h1 (by omega) (by omega)) (by rw [dep_ov]; omega) (by simp)) (by rw [dep_th, dep_ov]; omega)
theorem tl_un {D n : Nat} {a b : Kd} (h1 : a.ok = true) (h2 : b.ok = true) (hd : max a.dep b.dep + 2 ≤ D) : Tl D (n + 3) (.tu (.uu (.is a) (.is b))) [th a (un a b)] b :=
  .tu (r := []) (.uu (z := [a]) (r := []) (tl_is h1 (by omega) (by omega)) (tl_is h2 (by omega) (by omega)) (by rw [dep_un]; omega) (by simp)) (by rw [dep_th, dep_un]; omega)
/-- with a type ahead -/
theorem tl_with {D n : Nat} {a x y : Kd} {d : Dv} (h : Tl D (n + 1) d [x] y) (ha : a.ok = true) (d1 : a.dep + 1 ≤ D) (d2 : x.dep + 1 ≤ D) (d3 : y.dep + 1 ≤ D) : Tl D (n + 3) (.tu (.tm (.is a) d)) [th a x] (th a y) :=
  .tu (r := []) (.tm (x := [a]) (y := [x]) (tl_is ha (by omega) (by omega)) h (by rw [dep_th]; omega) (by simp)) (by rw [dep_th]; omega)
theorem path_unitBehind {M : Nat} {a b : Kd} (ha : a.ok = true) (hb : b.ok = true) (d1 : a.dep ≤ M) (d2 : b.dep ≤ M) : Path (M + 5) 8 (unitBehind a b) (th a (ov b b)) a := by
  refine path_cutBehind (D := M + 4) (n := 5) ?_ (thok ha (ovok hb hb)) ha hb (by rw [dep_th, dep_ov]; omega) (by omega) (by omega)
  refine ⟨_, sok_gath ha (ovok hb hb) hb (by rw [dep_ov]; omega) (by omega), ?_⟩
  refine Path.one ?_
  show Tl (M + 4) 6 _ [th a (th (ov b b) b)] (th a b)
  exact tl_with (n := 3) (tl_ov (n := 1) hb hb (by omega)) ha (by omega) (by rw [dep_th, dep_ov]; omega) (by omega)
theorem path_unitAhead {M : Nat} {a b : Kd} (ha : a.ok = true) (hb : b.ok = true) (d1 : a.dep ≤ M) (d2 : b.dep ≤ M) : Path (M + 7) 12 (unitAhead a b) (th (ov b b) a) a := by
  refine path_cutAhead (D := M + 6) (n := 9) ?_ (thok (ovok hb hb) ha) ha hb (by rw [dep_th, dep_ov]; omega) (by omega) (by omega)
  refine Path.app (Path.turned (Path.one (sok_gath hb (ovok hb hb) ha (by rw [dep_ov]; omega) (by omega)))) ?_
  exact Path.led (D := M + 5) (n := 7) (w := .th) (side := false) ha (by omega) (path_unitBehind hb hb d2 d2)
theorem lk_ok {x : Lt} {p : Str} (h : okw x.1 = true) (hp : okw p = true) : (lk x p).ok = true := by
  unfold lk
  split
  · exact h
  · exact ovok (ovok hp hp) h
theorem lk_dep {x : Lt} {p : Str} : (lk x p).dep ≤ 2 := by
  unfold lk
  split
  · exact Nat.zero_le _
  · exact Nat.le_refl _
theorem unitK_ok {p : Str} (hp : okw p = true) : (unitK p).ok = true := ok2' hp hp
/-- the letter and it turned back are nothing: with a sign back -/
theorem tl_pair {D n : Nat} {w p : Str} (hw : okw w = true) (hp : okw p = true) (hD : 4 ≤ D) : Tl D (n + 3) (pairUsed w p) [th (lk (w, false) p) (pl w)] (unitK p) :=
  tl_ov (a := unitK p) (b := pl w) (unitK_ok hp) hw (by show max 1 0 + 2 ≤ D; omega)
theorem path_pairGone {x : Lt} {p : Str} (hx : okw x.1 = true) (hp : okw p = true) : Path 12 16 (pairGone x p) (th (lk x p) (lk (iv x) p)) (unitK p) := by
  obtain ⟨w, s⟩ := x
  cases s with
  | false => exact Path.one (show Tl 12 16 _ _ _ from tl_pair (n := 13) hx hp (by omega))
  | true =>
    have o1 : (lk (w, true) p).ok = true := lk_ok hx hp
    have o2 : (lk (w, false) p).ok = true := lk_ok hx hp
    have d1 : (lk (w, true) p).dep = 0 := rfl
    have d2 : (lk (w, false) p).dep = 2 := rfl
    have d2' : (lk (iv (w, true)) p).dep = 2 := rfl
    have dU : (unitK p).dep = 1 := rfl
    have dp : (pl p).dep = 0 := rfl
    refine Path.mono (D := 10) (n := 14 + 1) (by omega) (by omega) (path_cutBehind (D := 9) (n := 12) ?_ (thok o1 o2) (unitK_ok hp) o1 (by rw [dep_th]; omega) (by omega) (by omega))
    show Path 9 13 (_ ++ _ ++ _) (th (th (lk (w, true) p) (lk (w, false) p)) (lk (w, true) p)) (th (unitK p) (lk (w, true) p))
    refine Path.app (b := lk (w, true) p) (Path.app (b := th (lk (w, true) p) (unitK p)) ?_ ?_) ?_
    · refine ⟨_, sok_gath o1 o2 o1 (by omega) (by omega), Path.one ?_⟩
      exact (show Tl 9 13 _ [th (lk (w, true) p) (th (lk (w, false) p) (lk (w, true) p))] _ from tl_with (n := 10) (tl_pair (n := 8) hx hp (by omega)) o1 (by omega) (by rw [dep_th]; show max 2 0 + 1 + 1 ≤ 9; omega) (by omega))
    · exact (path_unitBehind (M := 0) o1 (b := pl p) hp (by omega) (by omega)).mono (by omega) (by omega)
    · exact ((path_unitAhead (M := 0) o1 (b := pl p) hp (by omega) (by omega)).turned).mono (by omega) (by omega)
theorem form_ok {p : Str} (hp : okw p = true) {l : List Lt} (h : ∀ x ∈ l, okw x.1 = true) : (form l p).ok = true := by
  cases l with
  | nil => exact unitK_ok hp
  | cons x r =>
    show (r.foldl (fun k y => th k (lk y p)) (lk x p)).ok = true
    have hx := lk_ok (h x List.mem_cons_self) hp
    have hr : ∀ y ∈ r, okw y.1 = true := fun y hy => h y (List.mem_cons_of_mem _ hy)
    clear h
    generalize lk x p = k at hx
    induction r generalizing k with
    | nil => exact hx
    | cons y r ih => exact ih (fun z hz => hr z (List.mem_cons_of_mem _ hz)) _ (thok hx (lk_ok (hr y List.mem_cons_self) hp))
theorem form_dep (l : List Lt) (p : Str) : (form l p).dep ≤ l.length + 2 := by
  cases l with
  | nil => show 1 ≤ 2; omega
  | cons x r =>
    show (r.foldl (fun k y => th k (lk y p)) (lk x p)).dep ≤ _
    have hx : (lk x p).dep ≤ 2 := lk_dep
    rw [List.length_cons]
    have key : ∀ (r : List Lt) (k : Kd) (m : Nat), 2 ≤ m → k.dep ≤ m → (r.foldl (fun k y => th k (lk y p)) k).dep ≤ m + r.length := by
      intro r
      induction r with
      | nil => intro k m _ h; exact h
      | cons y r ih =>
        intro k m hm h
        have h2 : (lk y p).dep ≤ 2 := lk_dep
        have := ih (th k (lk y p)) (m + 1) (by omega) (by rw [dep_th]; omega)
        rw [List.length_cons]
        show (r.foldl _ (th k (lk y p))).dep ≤ _
        omega
    have := key r (lk x p) 2 (Nat.le_refl _) hx
    omega
theorem snoc_of {l : List Lt} {x : Lt} (h : l.getLast? = some x) : l = l.dropLast ++ [x] := by
  have hne : l ≠ [] := by intro e; subst e; cases h
  rw [List.getLast?_eq_some_getLast hne] at h
  cases h
  exact (List.dropLast_concat_getLast hne).symm
theorem push_ne {l : List Lt} {x : Lt} (h : l.getLast? ≠ some (iv x)) : push l x = l ++ [x] := by
  cases hl : l.getLast? with
  | none =>
    have : l = [] := List.getLast?_eq_none_iff.mp hl
    subst this; rfl
  | some y =>
    have e := snoc_of hl
    rw [hl] at h
    rw [e]
    exact push_app _ _ _ fun z => h (congrArg some z)
theorem path_oneMore {l : List Lt} {x : Lt} {p : Str} {M : Nat} (hl : ∀ y ∈ l, okw y.1 = true) (hx : okw x.1 = true) (hp : okw p = true) (hM : l.length ≤ M) : Path (M + 20) 18 (oneMore l x p) (th (form l p) (lk x p)) (form (push l x) p) := by
  unfold oneMore
  by_cases h0 : l = []
  · rw [if_pos h0]
    subst h0
    exact (path_unitAhead (M := 2) (lk_ok hx hp) (b := pl p) hp lk_dep (Nat.zero_le _)).mono (by omega) (by omega)
  · rw [if_neg h0]
    by_cases h1 : l.getLast? ≠ some (iv x)
    · rw [if_pos h1, push_ne h1, form_snoc l x p h0]
      exact rfl
    · rw [if_neg h1]
      have h1 : l.getLast? = some (iv x) := Classical.not_not.mp h1
      have e := snoc_of h1
      have hd : l.getLastD x = iv x := by
        rw [List.getLastD_eq_getLast?, h1] <;> rfl
      generalize hm : l.dropLast = m at e
      rw [hd]
      by_cases h2 : l.length = 1
      · rw [if_pos h2]
        have hm0 : m = [] := by
          rw [e, List.length_append] at h2
          have : m.length = 0 := by simpa using h2
          exact List.length_eq_zero_iff.mp this
        rw [e, hm0]
        have pp := path_pairGone (x := iv x) (p := p) hx hp
        rw [iv_iv] at pp
        have ep : push ([] ++ [iv x]) x = [] := push_pop [] x
        rw [ep]
        exact pp.mono (by omega) (by omega)
      · rw [if_neg h2]
        have hm1 : m ≠ [] := by
          rintro rfl
          rw [e] at h2
          exact h2 rfl
        have hmok : ∀ y ∈ m, okw y.1 = true := fun y hy => hl y (by rw [e]; exact List.mem_append_left _ hy)
        have fo := form_ok hp hmok
        have fd := form_dep m p
        have hml : m.length + 1 = l.length := by rw [e, List.length_append] <;> rfl
        rw [e, push_pop, form_snoc m _ p hm1]
        have d1 : (lk x p).dep ≤ 2 := lk_dep
        have d2 : (lk (iv x) p).dep ≤ 2 := lk_dep
        refine Path.app (b := th (form m p) (unitK p)) (Path.app (b := th (form m p) (th (lk (iv x) p) (lk x p))) (Path.one (sok_gath fo (lk_ok (x := iv x) hx hp) (lk_ok hx hp) (by omega) (by omega))) ?_) ?_
        · have pp := path_pairGone (x := iv x) (p := p) hx hp
          rw [iv_iv] at pp
          have := Path.led (D := M + 14) (n := 15) (w := .th) (side := true) fo (by omega) (pp.mono (by omega) (by omega))
          exact this.mono (by omega) (by omega)
        · exact (path_unitBehind (M := M + 2) fo (b := pl p) hp (by omega) (Nat.zero_le _)).mono (by omega) (by omega)
theorem put_mem (ys : List Lt) : ∀ (l : List Lt) (x : Lt), x ∈ put l ys → x ∈ l ∨ x ∈ ys := by
  induction ys with
  | nil => intro l x h; rw [put_nil] at h; exact .inl h
  | cons y ys ih =>
    intro l x h
    rw [put_cons] at h
    rcases ih _ _ h with h | h
    · have : x ∈ l ∨ x = y := by
        unfold push at h
        rw [List.mem_reverse] at h
        cases hr : l.reverse with
        | nil => rw [hr] at h; rw [show pushR [] y = [y] from rfl, List.mem_singleton] at h; exact .inr h
        | cons z t =>
          have hz : ∀ u ∈ z :: t, u ∈ l := fun u hu => by rw [← List.mem_reverse, hr]; exact hu
          rw [hr, pushR_cons] at h
          split at h
          · exact .inl (hz _ (List.mem_cons_of_mem _ h))
          · rcases List.mem_cons.mp h with e | h
            · exact .inr e
            · exact .inl (hz _ h)
      rcases this with h | h
      · exact .inl h
      · exact .inr (by rw [h]; exact List.mem_cons_self)
    · exact .inr (List.mem_cons_of_mem _ h)
theorem path_twoFormsR {one : List Lt} {p : Str} {M : Nat} (h1 : ∀ y ∈ one, okw y.1 = true) (hp : okw p = true) : ∀ (t : List Lt), (∀ y ∈ t, okw y.1 = true) → one.length + t.length ≤ M → Path (M + 20 + t.length) (18 + 2 * t.length) (twoFormsR one p t) (th (form one p) (form t.reverse p)) (form (put one t.reverse) p)
  | [], _, hM => by
    rw [List.reverse_nil, put_nil]
    have fd := form_dep one p
    rw [List.length_nil] at hM
    exact (path_unitBehind (M := M + 2) (form_ok hp h1) (b := pl p) hp (by omega) (Nat.zero_le _)).mono (by omega) (by omega)
  | [x], ht, hM => by
    have e : ([x] : List Lt).reverse = [] ++ [x] := rfl
    rw [e, put_snoc, put_nil, List.nil_append, form_one]
    exact (path_oneMore (M := M) h1 (ht x List.mem_cons_self) hp (by simp at hM; omega)).mono (by omega) (by omega)
  | x :: y :: t, ht, hM => by
    have ht' : ∀ z ∈ y :: t, okw z.1 = true := fun z hz => ht z (List.mem_cons_of_mem _ hz)
    have hx := ht x List.mem_cons_self
    rw [List.length_cons] at hM
    have ih := path_twoFormsR (M := M) h1 hp (y :: t) ht' (by omega)
    have hne : (y :: t).reverse ≠ [] := by simp
    rw [List.reverse_cons (a := x), put_snoc, form_snoc _ x p hne]
    have hr : ∀ z ∈ (y :: t).reverse, okw z.1 = true := fun z hz => ht' z (List.mem_reverse.mp hz)
    have f1 := form_dep one p
    have f2 := form_dep (y :: t).reverse p
    rw [List.length_reverse] at f2
    have d1 : (lk x p).dep ≤ 2 := lk_dep
    have hl : (put one (y :: t).reverse).length ≤ M := by
      have := put_len (y :: t).reverse one
      rw [List.length_reverse] at this
      omega
    refine Path.app (b := th (form (put one (y :: t).reverse) p) (lk x p)) (Path.app (b := th (th (form one p) (form (y :: t).reverse p)) (lk x p)) (Path.turned (Path.one (sok_gath (form_ok hp h1) (form_ok hp hr) (lk_ok hx hp) (by rw [List.length_cons]; omega) (by omega)))) ?_) ?_
    · have q := Path.led (D := M + 20 + (y :: t).length) (n := 17 + 2 * (y :: t).length) (w := .th) (side := false) (lk_ok hx hp) (by omega) (ih.mono (by omega) (by omega))
      exact q.mono (by rw [List.length_cons (a := x)]; omega) (by rw [List.length_cons (a := x)]; omega)
    · exact (path_oneMore (M := M) (fun z hz => (put_mem _ _ z hz).elim (h1 z) (hr z)) hx hp hl).mono (by omega) (by omega)
theorem path_twoForms {one other : List Lt} {p : Str} (h1 : ∀ y ∈ one, okw y.1 = true) (h2 : ∀ y ∈ other, okw y.1 = true) (hp : okw p = true) (l1 : one.length ≤ 3) (l2 : other.length ≤ 3) : Path 29 24 (twoForms one other p) (th (form one p) (form other p)) (form (put one other) p) := by
  have q := path_twoFormsR (M := 6) h1 hp other.reverse (fun y hy => h2 y (List.mem_reverse.mp hy)) (by rw [List.length_reverse]; omega)
  rw [List.reverse_reverse] at q
  exact q.mono (by rw [List.length_reverse]; omega) (by rw [List.length_reverse]; omega)
theorem unc_ok : ∀ {k : Kd}, k.ok = true → ∀ x ∈ unc k, okw x.1 = true
  | .pl w, h, x, hx => by rw [show unc (pl w) = [(w, true)] from rfl, List.mem_singleton] at hx; subst hx; exact h
  | .ov a b, h, x, hx => by
    rcases List.mem_append.mp hx with z | z
    · exact unc_ok (ok2 h).1 x z
    · unfold ivl at z
      rw [List.mem_reverse, List.mem_map] at z
      obtain ⟨y, hy, rfl⟩ := z
      exact unc_ok (ok2 h).2 y hy
  | .un a b, h, x, hx => by
    rcases List.mem_append.mp hx with z | z
    · unfold ivl at z
      rw [List.mem_reverse, List.mem_map] at z
      obtain ⟨y, hy, rfl⟩ := z
      exact unc_ok (ok2 h).1 y hy
    · exact unc_ok (ok2 h).2 x z
  | .th a b, h, x, hx => by
    rcases List.mem_append.mp hx with z | z
    · exact unc_ok (ok2 h).1 x z
    · exact unc_ok (ok2 h).2 x z
theorem lets_ok {k : Kd} (h : k.ok = true) : ∀ x ∈ lets k, okw x.1 = true := fun x hx => by
  unfold lets at hx
  rw [red_put_nil] at hx
  rcases put_mem _ _ _ hx with z | z
  · cases z
  · exact unc_ok h x z
theorem path_toForm {p : Str} (hp : okw p = true) : ∀ (k : Kd), k.ok = true → k.sg ≤ 2 → Path (31 + k.sg) (28 + 2 * k.sg) (toForm p k) k (form (lets k) p)
  | .pl w, _, _ => rfl
  | .th a b, h, hs => by
    obtain ⟨ha, hb⟩ := ok2 h
    have es : (th a b).sg = a.sg + b.sg + 1 := rfl
    have la := lets_len a
    have lb := lets_len b
    have fa := form_dep (lets a) p
    have da := dep_sg a
    have db := dep_sg b
    have ia := path_toForm hp a ha (by omega)
    have ib := path_toForm hp b hb (by omega)
    rw [lets_th]
    refine Path.app (b := th (form (lets a) p) (form (lets b) p)) (Path.app (b := th (form (lets a) p) b) (Path.led (D := 31 + a.sg) (n := 27 + 2 * a.sg) (w := .th) (side := false) hb (by omega) (ia.mono (by omega) (by omega)) |>.mono (by omega) (by omega)) ?_) ?_
    · exact (Path.led (D := 31 + b.sg) (n := 27 + 2 * b.sg) (w := .th) (side := true) (form_ok hp (lets_ok ha)) (by omega) (ib.mono (by omega) (by omega))).mono (by omega) (by omega)
    · exact (path_twoForms (lets_ok ha) (lets_ok hb) hp (by omega) (by omega)).mono (by omega) (by omega)
  | .ov a b, h, hs => by
    obtain ⟨ha, hb⟩ := ok2 h
    have es : (ov a b).sg = a.sg + b.sg + 1 := rfl
    have la := lets_len a
    have lb := lets_len b
    have lk' := lets_len (ov a b)
    have fa := form_dep (lets a) p
    have fb := form_dep (lets b) p
    have fk := form_dep (lets (ov a b)) p
    have da := dep_sg a
    have db := dep_sg b
    have ia := path_toForm hp a ha (by omega)
    have ib := path_toForm hp b hb (by omega)
    have oa := form_ok hp (lets_ok ha)
    have ob := form_ok hp (lets_ok hb)
    have ok' := form_ok hp (lets_ok h)
    refine Path.app (b := ov (form (lets a) p) (form (lets b) p)) (Path.app (b := ov (form (lets a) p) b) (Path.led (D := 31 + a.sg) (n := 27 + 2 * a.sg) (w := .ov) (side := false) hb (by omega) (ia.mono (by omega) (by omega)) |>.mono (by omega) (by omega)) ?_) ?_
    · exact (Path.led (D := 31 + b.sg) (n := 27 + 2 * b.sg) (w := .ov) (side := true) oa (by omega) (ib.mono (by omega) (by omega))).mono (by omega) (by omega)
    · refine Path.mono (D := 30) (n := 26) (by omega) (by omega) (path_cutBehind (D := 29) (n := 23) ?_ (ovok oa ob) ok' ob (by rw [dep_ov]; omega) (by omega) (by omega))
      refine Path.app (b := form (lets a) p) (Path.one (show Tl 29 24 _ _ _ from tl_ov (n := 21) oa ob (by omega))) ?_
      have q := path_twoForms (p := p) (lets_ok h) (lets_ok hb) hp (by omega) (by omega)
      rw [lets_ov] at q
      exact q.turned
  | .un a b, h, hs => by
    obtain ⟨ha, hb⟩ := ok2 h
    have es : (un a b).sg = a.sg + b.sg + 1 := rfl
    have la := lets_len a
    have lb := lets_len b
    have lk' := lets_len (un a b)
    have fa := form_dep (lets a) p
    have fb := form_dep (lets b) p
    have fk := form_dep (lets (un a b)) p
    have da := dep_sg a
    have db := dep_sg b
    have ia := path_toForm hp a ha (by omega)
    have ib := path_toForm hp b hb (by omega)
    have oa := form_ok hp (lets_ok ha)
    have ob := form_ok hp (lets_ok hb)
    have ok' := form_ok hp (lets_ok h)
    refine Path.app (b := un (form (lets a) p) (form (lets b) p)) (Path.app (b := un (form (lets a) p) b) (Path.led (D := 31 + a.sg) (n := 27 + 2 * a.sg) (w := .un) (side := false) hb (by omega) (ia.mono (by omega) (by omega)) |>.mono (by omega) (by omega)) ?_) ?_
    · exact (Path.led (D := 31 + b.sg) (n := 27 + 2 * b.sg) (w := .un) (side := true) oa (by omega) (ib.mono (by omega) (by omega))).mono (by omega) (by omega)
    · refine Path.mono (D := 30) (n := 26) (by omega) (by omega) (path_cutAhead (D := 29) (n := 23) ?_ (unok oa ob) ok' oa (by rw [dep_un]; omega) (by omega) (by omega))
      refine Path.app (b := form (lets b) p) (Path.one (show Tl 29 24 _ _ _ from tl_un (n := 21) oa ob (by omega))) ?_
      have q := path_twoForms (p := p) (lets_ok ha) (lets_ok h) hp (by omega) (by omega)
      rw [lets_un] at q
      exact q.turned
end MM
namespace MM
open PySem Kd

/-! ## how long, how often -/
theorem cnt_cutB (u : Bool) (c : Chain) (a b k : Kd) : cnt u (cutBehind c a b k) = cnt u c + 1 := by
  unfold cutBehind
  rw [cnt_cons, cnt_app, cnt_led_id u (fun _ => rfl), cnt_turned]
  cases u <;> rfl
theorem cnt_cutA (u : Bool) (c : Chain) (a b k : Kd) : cnt u (cutAhead c a b k) = cnt u c + 1 := by
  unfold cutAhead
  rw [cnt_cons, cnt_app, cnt_led_id u (fun _ => rfl), cnt_turned]
  cases u <;> rfl
theorem cnt_unitB (u : Bool) (a b : Kd) : cnt u (unitBehind a b) = if u = true then 3 else 1 := by cases u <;> rfl
theorem cnt_unitA (u : Bool) (a b : Kd) : cnt u (unitAhead a b) = if u = true then 4 else 3 := by cases u <;> rfl
theorem cnt_pair (u : Bool) (x : Lt) (p : Str) : cnt u (pairGone x p) ≤ if u = true then 9 else 6 := by
  obtain ⟨w, s⟩ := x
  cases s with
  | false =>
    have e : cnt u (pairGone (w, false) p) = if u = true then 1 else 0 := by cases u <;> rfl
    rw [e]; cases u <;> decide
  | true =>
    have e : cnt u [gath (lk (w, true) p) (lk (iv (w, true)) p) (lk (w, true) p), (true, .tu (.tm (.is (lk (w, true) p)) (pairUsed w p)))] = if u = true then 2 else 0 := by cases u <;> rfl
    have e2 : cnt u (pairGone (w, true) p) = cnt u [gath (lk (w, true) p) (lk (iv (w, true)) p) (lk (w, true) p), (true, .tu (.tm (.is (lk (w, true) p)) (pairUsed w p)))] + (if u = true then 3 else 1) + (if (!u) = true then 4 else 3) + 1 := by
      unfold pairGone
      rw [if_neg (by simp), cnt_cutB, cnt_app, cnt_app, cnt_unitB, cnt_turned, cnt_unitA]
    rw [e2, e]
    cases u <;> decide
theorem cnt_oneMore (u : Bool) (l : List Lt) (x : Lt) (p : Str) : cnt u (oneMore l x p) ≤ if u = true then 13 else 7 := by
  unfold oneMore
  split
  · rw [cnt_unitA]; cases u <;> decide
  · split
    · rw [cnt_nil]; exact Nat.zero_le _
    · split
      · exact Nat.le_trans (cnt_pair u _ p) (by cases u <;> decide)
      · rw [cnt_app, cnt_app, cnt_unitB, cnt_led_id u (fun _ => rfl)]
        have h := cnt_pair u (l.getLastD x) p
        have g : cnt u [gath (form l.dropLast p) (lk (l.getLastD x) p) (lk x p)] = if u = true then 1 else 0 := by cases u <;> rfl
        rw [g]
        cases u <;> simp at h ⊢ <;> omega
/-- what a letter costs at most, and what an empty word will cost -/
def cst (u : Bool) : Nat := if u = true then 13 else 9
def phi (u : Bool) (l : List Lt) : Nat := if l = [] then (if u = true then 4 else 3) else 0
theorem amort (u : Bool) (l : List Lt) (x : Lt) (p : Str) : 2 * cnt u (oneMore l x p) + 2 * phi u (push l x) + cst u * (push l x).length ≤ 2 * phi u l + cst u * l.length + cst u := by
  unfold oneMore
  by_cases h0 : l = []
  · subst h0
    rw [if_pos rfl, cnt_unitA, push_nil]
    cases u <;> simp [phi, cst]
  · rw [if_neg h0]
    by_cases h1 : l.getLast? ≠ some (iv x)
    · rw [if_pos h1, push_ne h1, cnt_nil]
      have e : phi u (l ++ [x]) = 0 := by unfold phi; rw [if_neg (by simp)]
      rw [e, List.length_append]
      simp only [List.length_singleton]
      rw [Nat.mul_add]
      omega
    · rw [if_neg h1]
      have h1 : l.getLast? = some (iv x) := Classical.not_not.mp h1
      have e := snoc_of h1
      generalize l.dropLast = m at e
      have hp : push l x = m := by rw [e, push_pop]
      have hl : l.length = m.length + 1 := by rw [e, List.length_append] <;> rfl
      rw [hp, hl]
      have z : phi u l = 0 := by unfold phi; rw [if_neg h0]
      rw [z]
      by_cases h2 : m.length + 1 = 1
      · rw [if_pos h2]
        have hm : m = [] := List.length_eq_zero_iff.mp (by omega)
        subst hm
        have := cnt_pair u (l.headD x) p
        cases u <;> simp [phi, cst] at this ⊢ <;> omega
      · rw [if_neg h2, cnt_app, cnt_app, cnt_unitB, cnt_led_id u (fun _ => rfl)]
        have hm : m ≠ [] := by intro e; rw [e] at h2; exact h2 rfl
        have hph : phi u m = 0 := by unfold phi; rw [if_neg hm]
        rw [hph, Nat.mul_add]
        have h := cnt_pair u (l.getLastD x) p
        have g : cnt u [gath (form m p) (lk (l.getLastD x) p) (lk x p)] = if u = true then 1 else 0 := by cases u <;> rfl
        rw [g]
        cases u <;> simp [cst] at h ⊢ <;> omega
/-- the letters' costs -/
def costs (u : Bool) (one : List Lt) (p : Str) : List Lt → Nat
  | [] => 0
  | x :: t => costs u one p t + cnt u (oneMore (put one t.reverse) x p)
theorem costs_le (u : Bool) (one : List Lt) (p : Str) : ∀ t : List Lt, 2 * costs u one p t + 2 * phi u (put one t.reverse) + cst u * (put one t.reverse).length ≤ 2 * phi u one + cst u * one.length + cst u * t.length
  | [] => by rw [List.reverse_nil, put_nil]; show 2 * 0 + _ + _ ≤ _; simp only [List.length_nil]; omega
  | x :: t => by
    have ih := costs_le u one p t
    have h := amort u (put one t.reverse) x p
    rw [List.reverse_cons, put_snoc]
    show 2 * (costs u one p t + cnt u (oneMore (put one t.reverse) x p)) + _ + _ ≤ _
    rw [List.length_cons, Nat.mul_add (cst u) t.length 1]
    omega
theorem cnt_twoR (u : Bool) (one : List Lt) (p : Str) : ∀ t : List Lt, t ≠ [] → cnt u (twoFormsR one p t) + 1 ≤ costs u one p t + (if u = true then 1 else t.length)
  | [], h => absurd rfl h
  | [x], _ => by
    show cnt u (oneMore one x p) + 1 ≤ 0 + cnt u (oneMore (put one []) x p) + _
    rw [put_nil]
    cases u <;> simp
  | x :: y :: t, _ => by
    have ih := cnt_twoR u one p (y :: t) (by simp)
    have e : cnt u (twoFormsR one p (x :: y :: t)) = cnt (!u) [gath (form one p) (form (y :: t).reverse p) (lk x p)] + cnt u (twoFormsR one p (y :: t)) + cnt u (oneMore (put one (y :: t).reverse) x p) := by
      show cnt u (_ ++ _ ++ _) = _
      rw [cnt_app, cnt_app, cnt_turned, cnt_led_id u (fun _ => rfl)]
    have g : cnt (!u) [gath (form one p) (form (y :: t).reverse p) (lk x p)] = if u = true then 0 else 1 := by cases u <;> rfl
    rw [e, g]
    show _ ≤ costs u one p (y :: t) + cnt u (oneMore (put one (y :: t).reverse) x p) + _
    cases u with
    | true => simp at ih ⊢; omega
    | false => simp at ih ⊢; omega
theorem phi_le (u : Bool) (l : List Lt) : phi u l ≤ if u = true then 4 else 3 := by
  unfold phi
  split
  · exact Nat.le_refl _
  · exact Nat.zero_le _
/-- the two forms: by the lengths -/
theorem cnt_twoF (u : Bool) (one other : List Lt) (p : Str) : (other.length = 0 ∧ cnt u (twoForms one other p) ≤ if u = true then 3 else 1) ∨
    (0 < other.length ∧ 2 * cnt u (twoForms one other p) + cst u * (put one other).length ≤ 2 * phi u one + cst u * one.length + cst u * other.length + (if u = true then 0 else 2 * (other.length - 1))) := by
  unfold twoForms
  by_cases h : other = []
  · subst h
    left
    refine ⟨rfl, ?_⟩
    rw [List.reverse_nil]
    show cnt u (unitBehind _ _) ≤ _
    rw [cnt_unitB]
    exact Nat.le_refl _
  · right
    have h1 := cnt_twoR u one p other.reverse (by simpa using h)
    have h2 := costs_le u one p other.reverse
    rw [List.reverse_reverse, List.length_reverse] at h2
    rw [List.length_reverse] at h1
    have hl := List.length_pos_iff.mpr h
    refine ⟨hl, ?_⟩
    cases u <;> simp at h1 ⊢ <;> omega
theorem both_le {c : Chain} {m : Nat} (h1 : cnt true c ≤ m) (h2 : cnt false c ≤ m) : both c ≤ m := by unfold both; omega
theorem cnt_parts (p : Str) (a b : Kd) (w : Wd) (u : Bool) {last : Chain} : cnt u (led (toForm p a) w b false ++ led (toForm p b) w (form (lets a) p) true ++ last) ≤ both (toForm p a) + both (toForm p b) + cnt u last := by
  rw [cnt_app, cnt_app]
  have h1 := cnt_led_le u w b false (toForm p a)
  have h2 := cnt_led_le u w (form (lets a) p) true (toForm p b)
  omega
/-- bounds of the last parts, by the letters of the parts -/
theorem cnt_toForm1 (p : Str) (u : Bool) (k : Kd) {s B : Nat} (hs : k.sg ≤ s + 1) (hs2 : s ≤ 1) (h : ∀ a b, (k = th a b ∨ k = ov a b ∨ k = un a b) → both (toForm p a) + both (toForm p b) ≤ B) : cnt u (toForm p k) ≤ B + (if u = true then 17 + 8 * s else 18 + 13 * s) := by
  cases k with
  | pl w => exact Nat.zero_le _
  | th a b =>
    have h3 := h a b (.inl rfl)
    refine Nat.le_trans (cnt_parts p a b .th u) ?_
    have h5 := cnt_twoF u (lets a) (lets b) p
    have la := lets_len a
    have lb := lets_len b
    have ph := phi_le u (lets a)
    have es : (th a b).sg = a.sg + b.sg + 1 := rfl
    rcases h5 with ⟨h6, h5⟩ | ⟨h6, h5⟩ <;> cases u <;> simp [cst] at h5 ph ⊢ <;> omega
  | ov a b =>
    have h3 := h a b (.inr (.inl rfl))
    refine Nat.le_trans (cnt_parts p a b .ov u) ?_
    rw [cnt_cutB, cnt_app, cnt_turned]
    have g : cnt u [((true : Bool), Dv.tu (.ou (.is (form (lets b) p)) (.is (form (lets a) p))))] = if u = true then 1 else 0 := by cases u <;> rfl
    rw [g]
    have h5 := cnt_twoF (!u) (lets (ov a b)) (lets b) p
    rw [lets_ov] at h5
    have la := lets_len a
    have lb := lets_len b
    have lo : (lets (ov a b)).length ≤ (lets a).length + (lets b).length := lets_ov_len a b
    have ph := phi_le (!u) (lets (ov a b))
    have es : (ov a b).sg = a.sg + b.sg + 1 := rfl
    rcases h5 with ⟨h6, h5⟩ | ⟨h6, h5⟩ <;> cases u <;> simp [cst] at h5 ph ⊢ <;> omega
  | un a b =>
    have h3 := h a b (.inr (.inr rfl))
    refine Nat.le_trans (cnt_parts p a b .un u) ?_
    rw [cnt_cutA, cnt_app, cnt_turned]
    have g : cnt u [((true : Bool), Dv.tu (.uu (.is (form (lets a) p)) (.is (form (lets b) p))))] = if u = true then 1 else 0 := by cases u <;> rfl
    rw [g]
    have h5 := cnt_twoF (!u) (lets a) (lets (un a b)) p
    rw [lets_un] at h5
    have la := lets_len a
    have lb := lets_len b
    have lo : (lets (un a b)).length ≤ (lets a).length + (lets b).length := lets_un_len a b
    have ph := phi_le (!u) (lets a)
    have es : (un a b).sg = a.sg + b.sg + 1 := rfl
    rcases h5 with ⟨h6, h5⟩ | ⟨h6, h5⟩ <;> cases u <;> simp [cst] at h5 ph ⊢ <;> omega
theorem both0 (p : Str) {k : Kd} (h : k.sg = 0) : both (toForm p k) = 0 := by
  cases k with
  | pl w => rfl
  | th a b => simp [Kd.sg] at h
  | ov a b => simp [Kd.sg] at h
  | un a b => simp [Kd.sg] at h
theorem sg_parts {k a b : Kd} (h : k = th a b ∨ k = ov a b ∨ k = un a b) : k.sg = a.sg + b.sg + 1 := by rcases h with h | h | h <;> subst h <;> rfl
theorem both1 (p : Str) {k : Kd} (h : k.sg ≤ 1) : both (toForm p k) ≤ 18 := by
  have key : ∀ u, cnt u (toForm p k) ≤ 0 + (if u = true then 17 + 8 * 0 else 18 + 13 * 0) := fun u => cnt_toForm1 p u k (s := 0) (by omega) (by omega) fun a b e => by
    have := sg_parts e
    rw [both0 p (k := a) (by omega), both0 p (k := b) (by omega)]
    omega
  have k1 := key true
  have k2 := key false
  simp at k1 k2
  exact both_le (by omega) (by omega)
theorem cnt2 (p : Str) {k : Kd} (h : k.sg ≤ 2) (u : Bool) : cnt u (toForm p k) ≤ if u = true then 43 else 49 := by
  have key := cnt_toForm1 p u k (s := 1) (B := 18) (by omega) (by omega) fun a b e => by
    have := sg_parts e
    by_cases ha : a.sg = 0
    · rw [both0 p ha]; have := both1 p (k := b) (by omega); omega
    · rw [both0 p (k := b) (by omega)]; have := both1 p (k := a) (by omega); omega
  cases u <;> simp at key ⊢ <;> omega
theorem len2 (p : Str) {k : Kd} (h : k.sg ≤ 2) : (toForm p k).length ≤ 92 := by
  have h1 := cnt2 p h true
  have h2 := cnt2 p h false
  have h3 := MM.cnt_two (toForm p k)
  simp at h1 h2
  omega

/-! ## chains shortened -/
def nodes (a : Kd) : Chain → List Kd
  | [] => [a]
  | s :: c => a :: nodes (ends s).2 c
theorem nodes_len (a : Kd) : ∀ c : Chain, (nodes a c).length = c.length + 1
  | [] => rfl
  | s :: c => by show (_ :: _).length = _; rw [List.length_cons, nodes_len, List.length_cons]
theorem nodes_snoc (s : Step) : ∀ (c : Chain) (a : Kd), nodes a (c ++ [s]) = nodes a c ++ [(ends s).2]
  | [], a => rfl
  | t :: c, a => by
    show a :: nodes (ends t).2 (c ++ [s]) = _
    rw [nodes_snoc s c] <;> rfl
theorem nodes_take : ∀ (c : Chain) (a : Kd) (j : Nat), nodes a (c.take j) = (nodes a c).take (j + 1)
  | [], a, j => by rw [List.take_nil, show nodes a [] = [a] from rfl, List.take_succ_cons, List.take_nil]
  | s :: c, a, 0 => rfl
  | s :: c, a, j + 1 => by
    show a :: nodes (ends s).2 (c.take j) = a :: (nodes (ends s).2 c).take (j + 1)
    rw [nodes_take]
theorem Path.take {D n : Nat} : ∀ {c : Chain} {a b : Kd} (j : Nat) {k : Kd}, Path D n c a b → (nodes a c)[j]? = some k → Path D n (c.take j) a k
  | [], a, b, 0, k, h, e => by cases e; exact rfl
  | [], a, b, j + 1, k, h, e => by cases e
  | s :: c, a, b, 0, k, h, e => by cases e; exact rfl
  | s :: c, a, b, j + 1, k, ⟨m, h, h'⟩, e => by
    have em : (ends s).2 = m := by rw [h.ends]
    have e' : (nodes (ends s).2 c)[j]? = some k := e
    rw [em] at e'
    exact ⟨m, h, Path.take j h' e'⟩
def wrStep (st : Chain × List Kd) (s : Step) : Chain × List Kd :=
  if (ends s).2 ∈ st.2 then (st.1.take (st.2.idxOf (ends s).2), st.2.take (st.2.idxOf (ends s).2 + 1)) else (st.1 ++ [s], st.2 ++ [(ends s).2])
def wrInit (c : Chain) : List Kd := (c.take 1).map fun s => (ends s).1
def withoutRings (c : Chain) : Chain := (c.foldl wrStep ([], wrInit c)).1
/-- what holds between two turns -/
structure WrInv (D n : Nat) (a x : Kd) (pre : Chain) (st : Chain × List Kd) : Prop where
  path : Path D n st.1 a x
  nod : st.2 = nodes a st.1
  sub : st.1.Sublist pre
theorem wr_turn {D n : Nat} {a x y : Kd} {pre : Chain} {st : Chain × List Kd} {s : Step} (h : WrInv D n a x pre st) (hs : SOk D n s x y) : WrInv D n a y (pre ++ [s]) (wrStep st s) := by
  have ey : (ends s).2 = y := by rw [hs.ends]
  unfold wrStep
  rw [ey]
  by_cases c : y ∈ st.2
  · rw [if_pos c]
    have hi : st.2.idxOf y < st.2.length := List.idxOf_lt_length_of_mem c
    have hg : st.2[st.2.idxOf y]? = some y := by
      rw [List.getElem?_eq_getElem hi, List.getElem_idxOf hi]
    exact ⟨h.path.take _ (by rw [← h.nod]; exact hg), by rw [nodes_take, h.nod], ((List.take_sublist _ _).trans h.sub).trans (List.sublist_append_left _ _)⟩
  · rw [if_neg c]
    exact ⟨h.path.app (Path.one hs), by rw [nodes_snoc, h.nod, ey], h.sub.append (List.Sublist.refl _)⟩
theorem wr_all {D n : Nat} {a : Kd} : ∀ {c : Chain} {x b : Kd} {pre : Chain} {st : Chain × List Kd}, WrInv D n a x pre st → Path D n c x b → WrInv D n a b (pre ++ c) (c.foldl wrStep st)
  | [], x, b, pre, st, h, hp => by cases (show x = b from hp); rw [List.append_nil]; exact h
  | s :: c, x, b, pre, st, h, ⟨m, h1, h2⟩ => by
    have := wr_all (wr_turn h h1) h2
    rw [List.append_assoc] at this
    exact this
theorem wr_start {D n : Nat} {c : Chain} {a b : Kd} (h : Path D n c a b) (hne : c ≠ []) : WrInv D n a a [] ([], wrInit c) := by
  cases c with
  | nil => exact absurd rfl hne
  | cons s c =>
    obtain ⟨m, h1, _⟩ := h
    refine ⟨rfl, ?_, List.Sublist.refl _⟩
    show [(ends s).1] = [a]
    rw [h1.ends]
theorem wr_path {D n : Nat} {c : Chain} {a b : Kd} (h : Path D n c a b) : Path D n (withoutRings c) a b ∧ (withoutRings c).Sublist c := by
  by_cases hne : c = []
  · subst hne; exact ⟨h, List.Sublist.refl _⟩
  · have := wr_all (wr_start h hne) h
    exact ⟨this.path, this.sub⟩
theorem sub_cnt {c e : Chain} (h : c.Sublist e) (u : Bool) : cnt u c ≤ cnt u e := h.countP_le

/-- each way has its own depth -/
def PathF (D : Nat) (f : Bool → Nat) : Chain → Kd → Kd → Prop
  | [], a, b => a = b
  | s :: c, a, b => ∃ m, SOk D (f s.1) s a m ∧ PathF D f c m b
theorem PathF.snoc {D : Nat} {f : Bool → Nat} {s : Step} : ∀ {c : Chain} {a b d : Kd}, PathF D f c a b → SOk D (f s.1) s b d → PathF D f (c ++ [s]) a d
  | [], _, _, _, h, h2 => by cases (show _ = _ from h); exact ⟨_, h2, rfl⟩
  | t :: c, _, _, _, ⟨m, h, h'⟩, h2 => ⟨m, h, PathF.snoc h' h2⟩
theorem PathF.split {D : Nat} {f : Bool → Nat} {s : Step} : ∀ {c : Chain} {a d : Kd}, PathF D f (c ++ [s]) a d → ∃ b, PathF D f c a b ∧ SOk D (f s.1) s b d
  | [], _, _, ⟨m, h, h'⟩ => by cases (show _ = _ from h'); exact ⟨_, rfl, h⟩
  | t :: c, _, _, ⟨m, h, h'⟩ => by
    obtain ⟨b, h1, h2⟩ := PathF.split h'
    exact ⟨b, ⟨m, h, h1⟩, h2⟩
theorem PathF.mono {D : Nat} {f g : Bool → Nat} (hf : ∀ w, f w ≤ g w) : ∀ {c : Chain} {a b : Kd}, PathF D f c a b → PathF D g c a b
  | [], _, _, h => h
  | s :: c, _, _, ⟨m, h, h'⟩ => ⟨m, h.mono (Nat.le_refl D) (hf _), PathF.mono hf h'⟩
theorem PathF.path {D n : Nat} {f : Bool → Nat} (hf : ∀ w, f w ≤ n) : ∀ {c : Chain} {a b : Kd}, PathF D f c a b → Path D n c a b
  | [], _, _, h => h
  | s :: c, _, _, ⟨m, h, h'⟩ => ⟨m, h.mono (Nat.le_refl D) (hf _), PathF.path hf h'⟩
def joinTwo (t s : Step) : Step := (s.1, if s.1 = true then .ct t.2 s.2 else .ct s.2 t.2)
def joinStep (found : Chain) (s : Step) : Chain := match found.getLast? with
  | some t => if t.1 = s.1 then found.dropLast ++ [joinTwo t s] else found ++ [s]
  | none => found ++ [s]
def joined (c : Chain) : Chain := c.foldl joinStep []
theorem sok_join {D n : Nat} {t s : Step} {a b d : Kd} (e : t.1 = s.1) (h1 : SOk D n t a b) (h2 : SOk D n s b d) : SOk D (n + 1) (joinTwo t s) a d := by
  obtain ⟨w, x⟩ := t
  obtain ⟨w', y⟩ := s
  have e : w = w' := e
  subst e
  cases w with
  | true => exact (show Tl D (n + 1) (.ct x y) [a] d from .ct (z := [a]) (r := []) (show Tl D n x [a] b from h1) (show Tl D n y [b] d from h2) (by simp))
  | false => exact (show Tl D (n + 1) (.ct y x) [d] a from .ct (z := [d]) (r := []) (show Tl D n y [d] b from h2) (show Tl D n x [b] a from h1) (by simp))
theorem snoc_lt {l : Chain} {x : Step} (h : l.getLast? = some x) : l = l.dropLast ++ [x] := by
  have hne : l ≠ [] := by intro e; subst e; cases h
  rw [List.getLast?_eq_some_getLast hne] at h
  cases h
  exact (List.dropLast_concat_getLast hne).symm
theorem join_turn {D n : Nat} {f : Bool → Nat} {found : Chain} {s : Step} {a x y : Kd} (hf : ∀ w, n ≤ f w) (h : PathF D f found a x) (hs : SOk D n s x y) : PathF D (fun w => f w + if s.1 = w then 1 else 0) (joinStep found s) a y ∧ (joinStep found s).length ≤ found.length + 1 := by
  have mono : ∀ w, f w ≤ f w + if s.1 = w then 1 else 0 := fun w => Nat.le_add_right _ _
  have hs' : SOk D (f s.1 + if s.1 = s.1 then 1 else 0) s x y := hs.mono (Nat.le_refl D) (Nat.le_trans (hf _) (Nat.le_add_right _ _))
  unfold joinStep
  split
  · rename_i t ht
    split
    · rename_i e
      have es := snoc_lt ht
      rw [es] at h
      obtain ⟨b, h1, h2⟩ := h.split
      rw [e] at h2
      have hj := sok_join e h2 (hs.mono (Nat.le_refl D) (hf s.1))
      refine ⟨PathF.snoc (h1.mono mono) ?_, ?_⟩
      · show SOk D (f s.1 + if s.1 = s.1 then 1 else 0) (joinTwo t s) b y
        rw [if_pos rfl]
        exact hj
      · have := congrArg List.length es
        rw [List.length_append] at this ⊢
        simp at this ⊢ <;> omega
    · exact ⟨PathF.snoc (h.mono mono) hs', by rw [List.length_append]; exact Nat.le_refl _⟩
  · exact ⟨PathF.snoc (h.mono mono) hs', by rw [List.length_append]; exact Nat.le_refl _⟩
theorem join_all {D n : Nat} : ∀ {c : Chain} {f : Bool → Nat} {found : Chain} {a x b : Kd}, (∀ w, n ≤ f w) → PathF D f found a x → Path D n c x b → PathF D (fun w => f w + cnt w c) (c.foldl joinStep found) a b ∧ (c.foldl joinStep found).length ≤ found.length + c.length
  | [], f, found, a, x, b, hf, h, hp => by cases (show x = b from hp); exact ⟨h, Nat.le_refl _⟩
  | s :: c, f, found, a, x, b, hf, h, ⟨m, h1, h2⟩ => by
    obtain ⟨q1, q2⟩ := join_turn hf h h1
    have q3 := join_all (fun w => Nat.le_trans (hf w) (Nat.le_add_right _ _)) q1 h2
    refine ⟨?_, by have := q3.2; rw [List.length_cons]; show (c.foldl joinStep (joinStep found s)).length ≤ _; omega⟩
    have e : (fun w => (f w + if s.1 = w then 1 else 0) + cnt w c) = fun w => f w + cnt w (s :: c) := by
      funext w
      rw [cnt_cons]
      omega
    rw [← e]
    exact q3.1
def shortened (c : Chain) : Chain := joined (withoutRings c)
theorem path_shortened {D n K : Nat} {c : Chain} {a b : Kd} (h : Path D n c a b) (hK : ∀ w, cnt w c ≤ K) : Path D (n + K) (shortened c) a b ∧ (shortened c).length ≤ c.length := by
  obtain ⟨h1, h2⟩ := wr_path h
  have q := join_all (n := n) (f := fun _ => n) (found := []) (a := a) (fun _ => Nat.le_refl _) rfl h1
  refine ⟨q.1.path fun w => ?_, ?_⟩
  · have := sub_cnt h2 w
    have := hK w
    omega
  · have := q.2
    rw [List.length_nil, Nat.zero_add] at this
    exact Nat.le_trans this h2.length_le
/-! ## the whole -/
def chainIn (a b : Kd) (p : Str) : Chain := shortened (toForm p a ++ turned (toForm p b))
theorem path_chain {a b : Kd} {p : Str} (hp : okw p = true) (ha : a.ok = true) (hb : b.ok = true) (sa : a.sg ≤ 2) (sb : b.sg ≤ 2) (e : lets a = lets b) : Path 33 124 (chainIn a b p) a b ∧ (chainIn a b p).length ≤ 240 := by
  have h1 := (path_toForm hp a ha sa).mono (D' := 33) (n' := 32) (by omega) (by omega)
  have h2 := (path_toForm hp b hb sb).mono (D' := 33) (n' := 32) (by omega) (by omega)
  rw [← e] at h2
  have q := path_shortened (K := 92) (h1.app h2.turned) (fun w => by
    rw [cnt_app, cnt_turned]
    have c1 := cnt2 p sa w
    have c2 := cnt2 p sb (!w)
    cases w <;> simp at c1 c2 ⊢ <;> omega)
  refine ⟨q.1, Nat.le_trans q.2 ?_⟩
  rw [List.length_append, turned_len]
  have l1 := len2 p sa
  have l2 := len2 p sb
  omega
theorem path_form {k : Kd} {p : Str} (hp : okw p = true) (hk : k.ok = true) (sk : k.sg ≤ 2) : Path 33 124 (shortened (toForm p k)) k (form (lets k) p) ∧ (shortened (toForm p k)).length ≤ 240 := by
  have h1 := (path_toForm hp k hk sk).mono (D' := 33) (n' := 32) (by omega) (by omega)
  have q := path_shortened (K := 92) h1 (fun w => by
    have c1 := cnt2 p sk w
    cases w <;> simp at c1 ⊢ <;> omega)
  exact ⟨q.1, Nat.le_trans q.2 (by have := len2 p sk; omega)⟩
end MM
namespace PU
open PySem PySem.Spec PyProof.Rows L2 StX MM

/-! ## types, derivations, chains as data -/
def Wd.nm : Wd → Str
  | .ov => "over" | .un => "under" | .th => "then"
def emb : Kd → PyData
  | .pl w => .str w
  | .ov a b => .tuple [.str "over", emb a, emb b]
  | .un a b => .tuple [.str "under", emb a, emb b]
  | .th a b => .tuple [.str "then", emb a, emb b]
def embD : Dv → PyData
  | .is k => .tuple [.str "is", emb k]
  | .om d => .tuple [.str "over made", embD d]
  | .um d => .tuple [.str "under made", embD d]
  | .tm a b => .tuple [.str "then made", embD a, embD b]
  | .ou a b => .tuple [.str "over used", .int 0, embD a, embD b]
  | .uu a b => .tuple [.str "under used", .int 0, embD a, embD b]
  | .tu d => .tuple [.str "then used", .int 0, embD d]
  | .ct a b => .tuple [.str "cut", .int 0, embD a, embD b]
def way (b : Bool) : Str := if b = true then "on" else "back"
def embS (s : MM.Step) : PyData := .tuple [.str (way s.1), embD s.2]
def embC (c : Chain) : List PyData := c.map embS
def sgn (b : Bool) : Int := if b = true then 1 else -1
def embT (x : Lt) : PyData := .tuple [.str x.1, .int (sgn x.2)]
def embL (l : List Lt) : List PyData := l.map embT
def embK (r : List Kd) : List PyData := r.map emb
theorem nl_emb : ∀ k : Kd, nl (emb k) = true
  | .pl _ => rfl
  | .ov a b => by show (true && (nl (emb a) && (nl (emb b) && true))) = true; rw [nl_emb a, nl_emb b] <;> rfl
  | .un a b => by show (true && (nl (emb a) && (nl (emb b) && true))) = true; rw [nl_emb a, nl_emb b] <;> rfl
  | .th a b => by show (true && (nl (emb a) && (nl (emb b) && true))) = true; rw [nl_emb a, nl_emb b] <;> rfl
theorem nl_embD : ∀ d : Dv, nl (embD d) = true
  | .is k => by show (true && (nl (emb k) && true)) = true; rw [nl_emb k] <;> rfl
  | .om d => by show (true && (nl (embD d) && true)) = true; rw [nl_embD d] <;> rfl
  | .um d => by show (true && (nl (embD d) && true)) = true; rw [nl_embD d] <;> rfl
  | .tm a b => by show (true && (nl (embD a) && (nl (embD b) && true))) = true; rw [nl_embD a, nl_embD b] <;> rfl
  | .ou a b => by show (true && (true && (nl (embD a) && (nl (embD b) && true)))) = true; rw [nl_embD a, nl_embD b] <;> rfl
  | .uu a b => by show (true && (true && (nl (embD a) && (nl (embD b) && true)))) = true; rw [nl_embD a, nl_embD b] <;> rfl
  | .tu d => by show (true && (true && (nl (embD d) && true))) = true; rw [nl_embD d] <;> rfl
  | .ct a b => by show (true && (true && (nl (embD a) && (nl (embD b) && true)))) = true; rw [nl_embD a, nl_embD b] <;> rfl
theorem nl_embS (s : MM.Step) : nl (embS s) = true := by show (true && (nl (embD s.2) && true)) = true; rw [nl_embD] <;> rfl
theorem nl_embT (x : Lt) : nl (embT x) = true := rfl
theorem nl_embC (c : Chain) : nlAll (embC c) = true := nlAll_of fun d h => by
  obtain ⟨s, _, rfl⟩ := List.mem_map.mp h
  exact nl_embS s
theorem nl_embK (r : List Kd) : nlAll (embK r) = true := nlAll_of fun d h => by
  obtain ⟨s, _, rfl⟩ := List.mem_map.mp h
  exact nl_emb s
theorem nl_embL (r : List Lt) : nlAll (embL r) = true := nlAll_of fun d h => by
  obtain ⟨s, _, rfl⟩ := List.mem_map.mp h
  exact nl_embT s
theorem strOk_w {w : Str} (h : okw w = true) : PyData.strOk w = true := by
  unfold okw at h
  rw [Bool.and_eq_true] at h
  have h2 := h.2
  unfold PyData.strOk
  rw [Array.all_eq_true']
  intro c hc
  have hc' : c ∈ w.cps.toList := by simpa using hc
  have := of_decide_eq_true (List.all_eq_true.mp h2 c hc')
  have key : ∀ c ∈ abc, c < 0x110000 := by decide
  exact decide_eq_true (key c this)
theorem lay3 {s : Str} {x y : PyData} (hs : PyData.strOk s = true) (hx : x.canLay0 = true) (hy : y.canLay0 = true) : (PyData.tuple [.str s, x, y]).canLay0 = true := by
  show (PyData.canLay0 (.str s) && (x.canLay0 && (y.canLay0 && true))) = true
  rw [hx, hy, show PyData.canLay0 (.str s) = PyData.strOk s from rfl, hs] <;> rfl
theorem lay_emb : ∀ {k : Kd}, k.ok = true → (emb k).canLay0 = true
  | .pl w, h => strOk_w h
  | .ov a b, h => lay3 (by decide +kernel) (lay_emb (ok2 h).1) (lay_emb (ok2 h).2)
  | .un a b, h => lay3 (by decide +kernel) (lay_emb (ok2 h).1) (lay_emb (ok2 h).2)
  | .th a b, h => lay3 (by decide +kernel) (lay_emb (ok2 h).1) (lay_emb (ok2 h).2)
theorem dep3 {s : Str} {x y : PyData} : (PyData.tuple [.str s, x, y]).depth = max x.depth y.depth + 1 := by
  show max (0 : Nat) (max x.depth (max y.depth 0)) + 1 = _
  omega
theorem dep_emb : ∀ k : Kd, (emb k).depth = k.dep
  | .pl w => rfl
  | .ov a b => by unfold emb; rw [dep3, dep_emb a, dep_emb b] <;> rfl
  | .un a b => by unfold emb; rw [dep3, dep_emb a, dep_emb b] <;> rfl
  | .th a b => by unfold emb; rw [dep3, dep_emb a, dep_emb b] <;> rfl
theorem eqv3 {s t : Str} {x y z u : PyData} : PyData.eqv (.tuple [.str s, x, y]) (.tuple [.str t, z, u]) = ((s == t) && (PyData.eqv x z && (PyData.eqv y u && true))) := by
  simp only [PyData.eqv, PyData.eqvAll]
theorem eqv_emb : ∀ a b : Kd, PyData.eqv (emb a) (emb b) = decide (a = b)
  | .pl v, .pl w => by
    show (v == w) = _
    by_cases h : v = w
    · subst h; simp
    · rw [beq_eq_false_iff_ne.mpr h]; simp [h]
  | .pl _, .ov _ _ => by simp [emb, PyData.eqv]
  | .pl _, .un _ _ => by simp [emb, PyData.eqv]
  | .pl _, .th _ _ => by simp [emb, PyData.eqv]
  | .ov _ _, .pl _ => by simp [emb, PyData.eqv]
  | .un _ _, .pl _ => by simp [emb, PyData.eqv]
  | .th _ _, .pl _ => by simp [emb, PyData.eqv]
  | .ov a b, .ov c d => by unfold emb; rw [eqv3, eqv_emb a c, eqv_emb b d]; simp
  | .un a b, .un c d => by unfold emb; rw [eqv3, eqv_emb a c, eqv_emb b d]; simp
  | .th a b, .th c d => by unfold emb; rw [eqv3, eqv_emb a c, eqv_emb b d]; simp
  | .ov a b, .un c d => by unfold emb; rw [eqv3, show (("over" : Str) == ("under" : Str)) = false from by decide +kernel, Bool.false_and]; simp
  | .ov a b, .th c d => by unfold emb; rw [eqv3, show (("over" : Str) == ("then" : Str)) = false from by decide +kernel, Bool.false_and]; simp
  | .un a b, .ov c d => by unfold emb; rw [eqv3, show (("under" : Str) == ("over" : Str)) = false from by decide +kernel, Bool.false_and]; simp
  | .un a b, .th c d => by unfold emb; rw [eqv3, show (("under" : Str) == ("then" : Str)) = false from by decide +kernel, Bool.false_and]; simp
  | .th a b, .ov c d => by unfold emb; rw [eqv3, show (("then" : Str) == ("over" : Str)) = false from by decide +kernel, Bool.false_and]; simp
  | .th a b, .un c d => by unfold emb; rw [eqv3, show (("then" : Str) == ("under" : Str)) = false from by decide +kernel, Bool.false_and]; simp
theorem le_line {n : Nat} (h : n ≤ 100000) : n ≤ sizeLine := Nat.le_trans h (by decide)

/-! ## items and lengths of any of these -/
def ixD : PyData → Int → Option PyData
  | .list ds, i => atI ds i
  | .tuple ds, i => atI ds i
  | _, _ => none
def lenD : PyData → Option Nat
  | .list ds => some ds.length
  | .tuple ds => some ds.length
  | _ => none
section
variable {X : Cx} {δ : PEnv} {a b : Expr} {pos : Pos} {d x : PyData}
theorem ev_ix {i : Int} (ha : EV X a δ x) (hb : EV X b δ (.int i)) (hi : ixD x i = some d) (hs : PlainIx b := by exact fun _ _ => rfl) : EV X (.Subscript a b pos) δ d := by
  cases x with
  | list ds => exact ev_ixL ha hb hi hs
  | tuple ds => exact ev_ixT ha hb hi hs
  | _ => cases hi
theorem cr_len {n : Nat} (h : lenD x = some n) : CalR X (.builtin "len") [x] (.dat (.int n)) := by
  cases x with
  | list ds => cases h; exact cr_lenL trivial
  | tuple ds => cases h; exact cr_lenT
  | _ => cases h
end
/-! ## what the module's names are -/
structure Mg (K : PySem.W.Frag) (mg : Str → Option Value) : Prop where
  signs : ∃ a, mg "SIGNS" = some (.ref a) ∧ ∀ H, SqT K H a ((["over", "then", "under"] : List Str).map V.str)
  one : ∃ a, mg "ONE" = some (.ref a) ∧ ∀ H, SqT K H a ((["over made", "under made"] : List Str).map V.str)
  used : ∃ a, mg "USED" = some (.ref a) ∧ ∀ H, SqT K H a ((["over used", "under used"] : List Str).map V.str)
  letters : ∃ t, mg "LETTERS" = some (.str "abcdefghijklmnopqrstuvwxyz" t)
  isinstance : mg "isinstance" = none
  len : mg "len" = none
  all : mg "all" = none
  any : mg "any" = none
  list : mg "list" = none
  tuple : mg "tuple" = none
  «str» : mg "str" = none
  int : mg "int" = none
  bool : mg "bool" = none
  dict : mg "dict" = none
  sorted : mg "sorted" = none
  range : mg "range" = none
  zip : mg "zip" = none
  sum : mg "sum" = none
  max : mg "max" = none
  min : mg "min" = none
theorem abc_eq : (Str.ofString "abcdefghijklmnopqrstuvwxyz").cps.toList = abc := by decide +kernel
theorem cr_allT {X : Cx} {ds : List PyData} (h : ∀ d ∈ ds, d = .bool true) (hc : X.calm = true := by rfl) : CalR X (.builtin "all") [.list ds] (.dat (.bool true)) := by
  have e : ds = (ds.map fun _ => true).map PyData.bool := by
    rw [List.map_map]
    have : ds.map id = ds.map (PyData.bool ∘ fun _ => true) := List.map_congr_left fun d hd => h d hd
    rw [List.map_id] at this
    exact this
  have e2 : (ds.map fun _ => true).any not = false := by
    rw [List.any_eq_false]
    intro b hb
    obtain ⟨d, _, rfl⟩ := List.mem_map.mp hb
    simp
  have e3 : (ds.map fun _ => true).all id = true := by
    rw [List.all_eq_true]
    intro b hb
    obtain ⟨d, _, rfl⟩ := List.mem_map.mp hb
    rfl
  have q := cr_allB (X := X) (bs := ds.map fun _ => true) hc
  rw [e3, ← e] at q
  exact q
theorem boot_isi : bootBuiltins "isinstance" = some (.builtin "isinstance") := by decide +kernel
section
variable {X : Cx} {δ : PEnv} {a : Expr} {pos : Pos} {d : PyData}
theorem boot_ty (t : Ty) : bootBuiltins (Str.ofString t.name) = some (.type t.name) := by cases t <;> decide +kernel
theorem ty_nn (t : Ty) : Str.ofString t.name ≠ "__name__" := by cases t <;> decide +kernel
theorem ty_nd (t : Ty) : (Str.ofString t.name == ("__debug__" : Str)) = false := by cases t <;> decide +kernel
theorem Mg.ty' {K : PySem.W.Frag} {mg : Str → Option Value} (G : Mg K mg) (t : Ty) : mg (Str.ofString t.name) = none := by
  cases t
  · exact G.str
  · exact G.tuple
  · exact G.list
  · exact G.int
  · exact G.bool
  · exact G.dict
theorem Mg.vSIGNS (G : Mg X.K X.mg) {p : Pos} (hg : Gl X "SIGNS") : EV X (.Name "SIGNS" p) δ (.tuple (strsD ["over", "then", "under"])) := by
  obtain ⟨a, h1, h2⟩ := G.signs
  exact ev_glob hg h1 (v := .ref a) rfl fun H => .tup (h2 H) (strs_rep _)
theorem Mg.vONE (G : Mg X.K X.mg) {p : Pos} (hg : Gl X "ONE") : EV X (.Name "ONE" p) δ (.tuple (strsD ["over made", "under made"])) := by
  obtain ⟨a, h1, h2⟩ := G.one
  exact ev_glob hg h1 (v := .ref a) rfl fun H => .tup (h2 H) (strs_rep _)
theorem Mg.vUSED (G : Mg X.K X.mg) {p : Pos} (hg : Gl X "USED") : EV X (.Name "USED" p) δ (.tuple (strsD ["over used", "under used"])) := by
  obtain ⟨a, h1, h2⟩ := G.used
  exact ev_glob hg h1 (v := .ref a) rfl fun H => .tup (h2 H) (strs_rep _)
theorem Mg.vLETTERS (G : Mg X.K X.mg) {p : Pos} (hg : Gl X "LETTERS") : EV X (.Name "LETTERS" p) δ (.str "abcdefghijklmnopqrstuvwxyz") := by
  obtain ⟨t, h1⟩ := G.letters
  exact ev_glob hg h1 (v := .str _) ⟨t, rfl⟩ fun H => .str _
/-- isinstance(x, T) -/
theorem Mg.isi (G : Mg X.K X.mg) {p p2 : Pos} {k : Bool} (t : Ty) (hg : Gl X "isinstance") (hy : Gl X (Str.ofString t.name)) (hs : starEach [a, .Name (Str.ofString t.name) p2] X.env = [(false, eval a X.env), (false, eval (.Name (Str.ofString t.name) p2) X.env)]) (ha : EV X a δ d) (hk : isTy d t = k := by rfl) :
    EV X (.Call (.Name "isinstance" p) [a, .Name (Str.ofString t.name) p2] [] pos) δ (.bool k) :=
  ev_isi ⟨hy, G.ty' t, boot_ty t, ty_nn t, ty_nd t⟩ ha G.isinstance boot_isi hg (by decide) (by decide) hs (hk := hk)
end
end PU
namespace PU
open PySem PySem.Spec PyProof.Rows L2 StX MM

/-! ## one of several results -/
def EN (X : Cx) (e : Expr) (δ : PEnv) (P : Res → Prop) : Prop :=
  ∀ (S : Addr → Prop) (σ : L2.St) (H : Hp) (Q : VK), Ok X.K S H σ δ → (∀ r v H', P r → Same H H' → Got X.K S H H' v r → Q v H') → sE X e σ H Q
def spN (K : PySem.W.Frag) (f : List PyData → (Res → Prop) → Prop) : Sp := fun vs H Q _ => ∃ (S : Addr → Prop) (ds : List PyData) (P : Res → Prop), (∀ a, S a → H a ≠ none) ∧ RepAll K (hide S H) vs ds ∧ f ds P ∧ ∀ r v H', P r → Same H H' → Got K S H H' v r → Q v H'
section
variable {X : Cx} {δ : PEnv} {e a b c : Expr} {es : List Expr} {pos : Pos} {d x y : PyData} {ds xs ys : List PyData} {k : Bool} {P : Res → Prop}
theorem en_of {r : Res} (h : EG X e δ r) : EN X e δ (fun r' => r' = r) := fun S σ H Q ok q => h S σ H Q ok fun v H' s g => q r v H' rfl s g
theorem en_call {n : Nat} {x : Str} {p : Pos} {ps : List Str} {f : List PyData → (Res → Prop) → Prop} (C : Cal X.prog X.w X.K X.mg X.base n x ps (spN X.K f)) (hr : Room n X.A) (ha : EA X (e :: es) δ ds) (hf : f ds P) (hg : Gl X x := by rfl)
    (hd : (x == ("__debug__" : Str)) = false := by decide)
    (he : starEach (e :: es) X.env = (false, eval e X.env) :: starEach es X.env := by rfl) (hpl : (backTo pos (starEach es X.env)).any (·.1) = false := by rfl) : EN X (.Call (.Name x p) (e :: es) [] pos) δ P := fun S σ H Q ok q => by
  obtain ⟨a, fd, hm, hk, hb, F⟩ := C.ex
  refine sE_of (pe_call F hr hg hm hk hb .nil pass0 pa_s hd he hpl) ?_
  refine ha S σ H _ ok fun vs H1 s1 g1 => ?_
  refine ⟨S, ds, P, (ok.m s1).hid, ?_, hf, fun r v H' hP s2 g2 => q r _ _ hP (s1.trans s2) (g2.back s1)⟩
  rw [List.append_nil]
  exact g1
/-- a[i] of one of several lists -/
theorem en_ix {i : Int} {P' : Res → Prop} (ha : EN X a δ P) (hb : ∀ {r}, P r → EV X b δ (.int i)) (h : ∀ r, P r → ∃ ds d, r = .fresh ds ∧ atI ds i = some d ∧ P' (.dat d)) (hs : PlainIx b := by exact fun _ _ => rfl) : EN X (.Subscript a b pos) δ P' := fun S σ H Q ok q => by
  refine sE_of (pe_ix ix_list pe_s pe_s hs) ?_
  refine ha S σ H _ ok fun r v H1 hP s1 g1 => ?_
  obtain ⟨ds, d, rfl, hi, hP'⟩ := h r hP
  refine hb hP S σ H1 _ (ok.m s1) fun w H2 s2 g2 => ?_
  cases (show Rep X.K (hide S H2) w (.int i) from g2)
  have g3 := (Got.weak ok.hid g1).m (hide_same s2)
  cases g3 with
  | lst h1 h2 =>
    obtain ⟨j, e1, e2, e3, e4, e5⟩ := atI_get hi
    obtain ⟨z, f1, f2⟩ := h2.get e2
    refine ⟨_, _, i, z, rfl, rfl, SqL.of (hide_some h1).2, ?_, q (.dat d) _ _ hP' (s1.trans s2) f2⟩
    unfold atI at hi ⊢
    rw [h2.length]
    cases c : ixN ds.length i with
    | none => rw [c] at hi; cases hi
    | some m =>
      have := (ixN_seq c).1
      rw [e1] at this
      cases this
      exact f1
/-- sorted({x: True for x in ..}) over texts -/
theorem en_sortedKeys {kx iter : Expr} {scope : Scope} {x nm : Str} {px p pos2 : Pos} {j : Nat} {pb : Pos} {ws : List Str} (i : Nat) (hN : X.N.Nodup) (hi : EI X (.Name x px) iter δ (strsD ws)) (hb : blkC X.N X.env.scope scope [(x, i)] = true)
    (hkey : ∀ w ∈ ws, EGB X scope kx ((wipeD δ [i]).set i (some (.str w))) (.dat (.str w))) (hlen : ws.length < 64) (hm : X.mg nm = none) (hv : bootBuiltins nm = some (.builtin "sorted"))
    (hg : ∀ (s : Shared) (H : Hp) (C : Addr) (cl : List (Str × Addr)) (fp : List Addr), PG (X.blk s H scope (compEnvC scope cl C X.env) fp) (.Name x px) (gName i))
    (hgl : Gl X nm := by rfl) (hn : nm ≠ "__name__" := by decide) (hdb : (nm == ("__debug__" : Str)) = false := by decide)
    (hs : ∀ x, foldedSetIterable iter X.env x = pure x := by intro _; rfl) (hc : X.calm = true := by rfl)
    (hse : starEach [.DictComp kx (.Constant (.bool true) j pb) [⟨.Name x px, iter, [], 0⟩] scope pos2] X.env = [(false, eval (.DictComp kx (.Constant (.bool true) j pb) [⟨.Name x px, iter, [], 0⟩] scope pos2) X.env)] := by rfl)
    (hpl : (backTo pos (starEach [] X.env)).any (·.1) = false := by rfl) :
    EN X (.Call (.Name nm p) [.DictComp kx (.Constant (.bool true) j pb) [⟨.Name x px, iter, [], 0⟩] scope pos2] [] pos) δ (fun r => ∃ ys : List Str, r = .fresh (strsD ys) ∧ (∀ y ∈ ys, y ∈ ws) ∧ (ws ≠ [] → ys ≠ [])) := fun S σ H Q okE q => by
  refine sE_of (pe_callB (call_sortedD hc) hgl hm hv (pa_cons (pe_dc hc hN pi_s (blkOk_by hb) hg (fun _ _ _ _ _ => pts_nil) pe_sB (fun _ _ _ _ _ => pe_bl) hs) pa_nil hse) hn hdb hse hpl) ?_
  refine hi S σ H _ okE fun J H1 s1 W => ?_
  intro D hD
  have hn0 := same_new hD
  have hl : (strsD ws).length = ws.length := List.length_map _
  let Pv : Nat → Hp → Prop := fun i H2 => Same H1 H2 ∧ ∃ (kvs : List (Key × V)) (ks : List Str), H2 D = some (.dK kvs) ∧ kvs.map (·.1) = ks.map Sum.inr ∧ ks.length ≤ i ∧ (∀ y ∈ ks, y ∈ ws) ∧ (0 < i → ks ≠ [])
  refine ⟨fun i m H2 => m = ws.length - i ∧ i ≤ ws.length ∧ Pv i H2, ⟨ws.length, by simp, Nat.zero_le _, hn0 _, [], [], upd_same, rfl, Nat.le_refl _, (fun _ h => nomatch h), fun h => absurd h (Nat.lt_irrefl _)⟩, ?_⟩
  rintro m μ H2 ⟨rfl, hle, s2, kvs, ks, hv2, hk2, hl2, hm2, hne2⟩
  have sS : Same (hide S H1) (hide S H2) := hide_same s2
  by_cases hlt : m < ws.length
  · refine .inr ⟨W.go H2 m sS (by rw [hl]; exact hlt), Pv (m + 1), fun H' p' => ⟨ws.length - (m + 1), by omega, rfl, hlt, p'⟩, fun v H' hy => ?_⟩
    have okH : Ok X.K (fun a => S a ∨ a = D) H2 σ δ := by
      have o1 := okE.m s1
      refine { len := o1.len, hid := fun a ha => ?_, dat := fun j d hj => ?_ }
      · rcases ha with ha | ha
        · exact (o1.m s2).hid a ha
        · subst ha; rw [hv2]; exact fun z => nomatch z
      · obtain ⟨v, h1, h2⟩ := o1.dat j d hj
        exact ⟨v, h1, h2.m (hide_free hD s2)⟩
    obtain ⟨s3, d, hd, hx⟩ := W.yld (fun a => S a ∨ a = D) H2 m v H' okH.hid (fun a ha => ha.elim .inl fun e => .inr (by rw [e]; exact hD)) sS (by rw [hl]; exact hlt) hy
    have hd2 : d ∈ strsD ws := List.mem_of_getElem? hd
    obtain ⟨w, hw, rfl⟩ := List.mem_map.mp hd2
    refine tgt_name (K := X.K) (i := i) (vs := [i]) (by simp) (fun a => S a ∨ a = D) σ H' v (wipeD δ [i]) _ hx ((okH.m s3).wipe _) fun σ2 hw2 ok2 => ⟨hw2, ?_⟩
    refine iteT (B := Pv (m + 1) H') ?_
    intro sh Hh C cl fp
    refine hkey w hw sh Hh C cl fp (fun a => S a ∨ a = D) σ2 H' _ ok2 fun y H4 s5 g5 => ?_
    cases (show Rep X.K (hide (fun a => S a ∨ a = D) H4) y (.str w) from g5)
    have s6 : Same H2 H4 := s3.trans s5
    have hkl : kvs.length = ks.length := by
      have := congrArg List.length hk2
      rw [List.length_map, List.length_map] at this
      exact this
    refine ⟨kvs, .inr w, rfl, s6 _ _ hv2, ?_, ?_⟩
    · have := sizeLine_eq; omega
    · refine ⟨fun b u hb => ?_, putK kvs (.inr w) (.bl true), if w ∈ ks then ks else ks ++ [w], upd_same, ?_, ?_, ?_, ?_⟩
      · rw [upd_ne (ne_of_none hb hD)]
        exact s6 _ _ (s2 _ _ hb)
      · unfold putK
        have any_iff : (kvs.any fun kv => decide (kv.1 = Sum.inr w)) = decide (w ∈ ks) := by
          have e1 : (kvs.any fun kv => decide (kv.1 = Sum.inr w)) = (kvs.map (·.1)).any fun z => decide (z = Sum.inr w) := by rw [List.any_map] <;> rfl
          rw [e1, hk2, List.any_map]
          by_cases c : w ∈ ks
          · rw [decide_eq_true c, List.any_eq_true]
            exact ⟨w, c, by simp⟩
          · rw [decide_eq_false c, List.any_eq_false]
            intro z hz
            have : z ≠ w := fun e => c (e ▸ hz)
            simp [this]
        rw [any_iff]
        by_cases c : w ∈ ks
        · rw [if_pos (decide_eq_true c), if_pos c, List.map_map]
          rw [← hk2]
          refine List.map_congr_left fun kv _ => ?_
          show (if kv.1 = Sum.inr w then (kv.1, V.bl true) else kv).1 = kv.1
          split <;> rfl
        · rw [if_neg (by rw [decide_eq_false c]; exact Bool.false_ne_true), if_neg c, List.map_append, List.map_append, hk2]
          rfl
      · split
        · omega
        · rw [List.length_append]; show ks.length + 1 ≤ _; omega
      · intro y hy
        split at hy
        · exact hm2 y hy
        · rcases List.mem_append.mp hy with z | z
          · exact hm2 y z
          · rw [List.mem_singleton] at z; subst z; exact hw
      · intro _
        split
        · rename_i c; intro e; rw [e] at c; cases c
        · simp
  · have e : m = ws.length := by omega
    subst e
    refine .inl ⟨by have := W.stop H2 sS; rw [hl] at this; exact this, D, kvs, ks, rfl, .inl hv2, hk2, by omega, fun ys p hp hso hpn => ?_⟩
    have n2 := same_new hpn
    refine q (.fresh (strsD ys)) _ _ ⟨ys, rfl, fun y hy => hm2 y (hp.mem_iff.mp hy), fun hw => ?_⟩ ((s1.trans s2).trans (n2 _)) ⟨p, ys.map V.str, rfl, (s1.trans s2).free hpn, upd_same, strs_rep ys⟩
    intro e
    rw [e] at hp
    have := hp.length_eq
    have h1 : ks ≠ [] := hne2 (List.length_pos_iff.mpr hw)
    exact h1 (List.length_eq_zero_iff.mp this.symm)
end
section
variable {X : Cx} {δ : SEnv} {n : Bud} {N : SEnv → Bud → Prop} {R : Res → Bud → Prop} {e a b c : Expr} {pos : Pos} {P : Res → Prop}
theorem es_setN {x : Str} {pos' : Pos} (i : Nat) (he : EN X e (flat δ) P) (hN : ∀ r, P r → Safe δ i r ∧ N (δ.set i (toSlot r)) n) (nd : X.N.Nodup)
    (hi : X.N[i]? = some x := by rfl) (hx : Loc X.env.scope x := by first | exact Or.inl rfl | exact Or.inr rfl)
    (hs : swapsWith e (some (.Name x pos')) pos.line X.env = pure false := by rfl) (hf : X.fn x = true ∨ X.env.scope.names.lookup x = some .local := by first | exact .inl rfl | exact .inr rfl) : ES X (.Assign [.Name x pos'] e pos) δ n N R := fun p S H0 D σ H A ok pu hn hr => by
  refine sS_of (ps_set nd hi hx pe_s hs hf) ?_
  refine he S σ H _ ok.ok fun r v H1 hP s1 g1 => ?_
  obtain ⟨A', ok'⟩ := ok.put s1 g1 (hN r hP).1
  exact hn _ n _ H1 A' (hN r hP).2 ok' (pu.m s1)
theorem es_retNn (he : EN X e (flat δ) P) (hR : ∀ r, P r → R r n) : ES X (.Return (some e) pos) δ n N R := fun p S H0 D σ H A ok pu hn hr => by
  refine sS_of (ps_ret pe_s) ?_
  exact he S σ H _ ok.ok fun r v H1 hP s1 g1 => hr r n v H1 (hR r hP) (ok.base.trans s1) (pu.m s1) (g1.back ok.base)
theorem es_retN (hR : R (.dat .none) n) : ES X (.Return none pos) δ n N R := fun p S H0 D σ H A ok pu hn hr => sS_of ps_retN (hr _ n _ H hR ok.base pu .non)
end
section
variable {P : Program} {w : World} {K : PySem.W.Frag} {mg : Str → Option Value} {base : Heap}
theorem Fun.okN {x qual : Str} {st : Stmt} {f : Addr} {fd : FuncData} {N ps : List Str} {k : Nat} (F : Fun K x qual st f fd) (S : FnScope N ps (defScope st)) (fr : List PyData → (Res → Prop) → Prop) (hl : ∀ ds r, fr ds r → ds.length = ps.length)
    (body : ∀ (cdv : Value) (A : Around) (outer : List Env) (s : Shared) (H : Hp) (E : XK), Room k (A.deeper (envOfC qual (defScope st) s.heap.objs.size f cdv)) → ∀ ds Ps, fr ds Ps →
      EW (cxOf CX0 P w K mg base N qual (defScope st) f cdv A outer s H E).nox (defBody st) (startS N ds) .none (fun _ _ => Ps (.dat .none)) (fun r' _ => Ps r')) : FnOk P w K mg base CX0 (k + 1) f fd ps (spN K fr) := by
  refine F.ok S (fun vs H Q E h => ?_) (fun cdv A outer s H vs Q E hr h => ?_)
  · obtain ⟨T, ds, r, h1, h2, h3, h4⟩ := h
    rw [h2.length]
    exact hl ds r h3
  · obtain ⟨T, ds, r, h1, h2, h3, h4⟩ := h
    refine ⟨_, pss_s, ?_⟩
    have hlen := h2.length
    refine body cdv A outer s H E hr ds r h3 0 T H _ _ H (fun _ => 0) ?_ trivial (fun δ' n' σ' H' A' hN ok' _ => ?_) (fun r' n' v H' hR s1 _ g => ?_)
    · refine { len := ?_, base := Same.refl H, hid := h1, dat := fun i d hd => ?_, own := fun i es he => ?_, inj := fun i j es es' he => ?_, pur := fun i he => ?_ }
      · unfold startS L2.start
        rw [List.length_append, List.length_append, List.length_map, List.length_map, List.length_replicate, List.length_replicate, hlen]
        exact Nat.le_refl _
      · obtain ⟨v, q1, q2⟩ := h2.get (startS_dat hd)
        refine ⟨v, start_get q1, q2.m (hide_anti fun a z => z.elim id fun ⟨j, es, k1, _⟩ => ?_)⟩
        rcases startS_own k1 with ⟨_, e⟩ | e <;> cases e
      · rcases startS_own he with ⟨_, e⟩ | e <;> cases e
      · rcases startS_own he with ⟨_, e⟩ | e <;> cases e
      · rcases startS_own he with ⟨_, e⟩ | e <;> cases e
    · exact h4 _ _ _ hN ok'.base .non
    · exact h4 _ _ _ hR s1 g
/-- a def as its callers see it -/
theorem cal_of {x : Str} {k : Nat} {f : Addr} {fd : FuncData} {ps : List Str} {sp : Sp} (hm : mg x = some (.ref f)) (kp : PySem.W.keepIn K (.ref f) = true) (b : Binds K fd ps []) (F : FnOk P w K mg base CX0 k f fd ps sp) : Cal P w K mg base k x ps sp := ⟨f, fd, hm, kp, b, F⟩
theorem Cal.imp {x : Str} {k : Nat} {ps : List Str} {sp sp' : Sp} (C : Cal P w K mg base k x ps sp) (h : ∀ vs H Q E, sp' vs H Q E → sp vs H Q E) : Cal P w K mg base k x ps sp' := by
  obtain ⟨a, fd, h1, h2, h3, h4⟩ := C.ex
  exact ⟨a, fd, h1, h2, h3, h4.imp h⟩
theorem Cal.mono {x : Str} {k k' : Nat} {ps : List Str} {sp : Sp} (C : Cal P w K mg base k x ps sp) (h : k ≤ k') : Cal P w K mg base k' x ps sp := by
  obtain ⟨a, fd, h1, h2, h3, h4⟩ := C.ex
  exact ⟨a, fd, h1, h2, h3, h4.mono h⟩
/-- nothing can be asked with no calls left -/
theorem none_left {f : Addr} {fd : FuncData} {ps : List Str} {sp : Sp} (no : ∀ vs H Q E, ¬ sp vs H Q E) : FnOk P w K mg base CX0 0 f fd ps sp :=
  ⟨fun vs H Q E h => absurd h (no vs H Q E), fun A outer s H args us vs Q E _ _ _ _ h => absurd h (no vs H Q E)⟩
end
end PU
namespace PU
open PySem PySem.Spec PyProof.Rows L2 StX MM

/-! ## a list that was handed in, and is changed -/
def flatP (δ : SEnv) (xs : List PyData) : PEnv := δ.map fun s => match s with | .purse => some (.list xs) | .dat d => some d | .own ds => some (.list ds) | .unk => none
def spM (K : PySem.W.Frag) (f : List PyData → List PyData → List PyData → Prop) : Sp := fun vs H Q _ => ∃ (S : Addr → Prop) (p : Addr) (ds xs ys : List PyData) (vs0 ws : List V), (∀ a, S a → H a ≠ none) ∧ S p ∧ vs = vs0 ++ [.ref p] ∧ RepAll K (hide S H) vs0 ds ∧ H p = some (.lst ws) ∧ RepAll K (hide S H) ws xs ∧
  nlAll xs = true ∧ nlAll ys = true ∧ f ds xs ys ∧ ∀ H' ws', Same (hide (fun a => a = p) H) H' → H' p = some (.lst ws') → RepAll K (hide S H') ws' ys → Q .non H'
section
variable {K : PySem.W.Frag} {p : Addr} {S : Addr → Prop} {H0 H H1 : Hp} {σ : L2.St} {δ : SEnv} {A : Nat → Addr}
theorem OkS.okP {xs : List PyData} (ok : OkS K p S H0 H σ δ A) (pu : Pu K p S (.lst xs) H) : Ok K (fun a => S a ∧ a ≠ p) H σ (flatP δ xs) :=
  { len := by unfold flatP; rw [List.length_map]; exact ok.len
    hid := fun a h => ok.hid a h.1
    dat := fun i d h => by
      unfold flatP at h
      rw [List.getElem?_map] at h
      cases q : δ[i]? with
      | none => rw [q] at h; cases h
      | some s =>
        rw [q] at h
        cases s with
        | unk => cases h
        | purse =>
          cases h
          obtain ⟨h1, h2, h3⟩ := ok.pur i q
          obtain ⟨hS, hn, vs, h4, h5⟩ := pu
          exact ⟨_, h1, .lst (xs := vs) (by rw [hide_get (fun z => z.2 rfl)]; exact h4) (h5.m (hide_anti fun a z => z.1))⟩
        | dat d' =>
          cases h
          obtain ⟨v, h1, h2⟩ := ok.dat i _ q
          exact ⟨v, h1, h2.m (hide_anti fun a z => .inl z.1)⟩
        | own ds =>
          cases h
          obtain ⟨h1, h2, h3, vs, h4, h5⟩ := ok.own i ds q
          exact ⟨_, h1, .lst (xs := vs) (by rw [hide_get (fun z => h3 z.1)]; exact h4) (h5.m (hide_anti fun a z => .inl z.1))⟩ }
/-- the heap has changed at p alone -/
theorem OkS.atP (ok : OkS K p S H0 H σ δ A) (hp : S p) (h0 : H0 p = none) (e : Same (hide (fun a => a = p) H) H1) (hq : H1 p ≠ none) : OkS K p S H0 H1 σ δ A := by
  have e2 : ∀ {T : Addr → Prop}, T p → Same (hide T H) (hide T H1) := fun {T} hT b u hb => by
    obtain ⟨c, hb⟩ := hide_some hb
    rw [hide_get c]
    exact e b u (by rw [hide_get (fun z => by subst z; exact c hT)]; exact hb)
  refine { len := ok.len, base := fun b u hb => e b u ?_, hid := fun a ha => ?_, dat := fun i d h => ?_, own := fun i ds h => ?_, inj := ok.inj, pur := ok.pur }
  · rw [hide_get (fun z => by subst z; rw [h0] at hb; cases hb)]
    exact ok.base _ _ hb
  · by_cases c : a = p
    · subst c; exact hq
    · cases q : H a with
      | none => exact absurd q (ok.hid a ha)
      | some o =>
        rw [e a o (by rw [hide_get (S := fun a => a = p) c]; exact q)]
        exact fun z => nomatch z
  · obtain ⟨v, h1, h2⟩ := ok.dat i d h
    exact ⟨v, h1, h2.m (e2 (.inl hp))⟩
  · obtain ⟨h1, h2, h3, vs, h4, h5⟩ := ok.own i ds h
    exact ⟨h1, h2, h3, vs, e _ _ (by rw [hide_get (fun z => h3 (by rw [z]; exact hp))]; exact h4), h5.m (e2 (.inl hp))⟩
/-- .. at an own list alone -/
theorem OkS.atOwn (ok : OkS K p S H0 H σ δ A) {i : Nat} {ds es : List PyData} (hi : δ[i]? = some (.own ds)) {ws : List V} (e : Same (hide (fun a => a = A i) H) H1) (hw : H1 (A i) = some (.lst ws)) (hr : RepAll K (hide (fun a => S a ∨ owned δ A a) H1) ws es) :
    OkS K p S H0 H1 σ (δ.set i (.own es)) A := by
  have hil : i < δ.length := (List.getElem?_eq_some_iff.mp hi).1
  have hO : ∀ a, owned (δ.set i (.own es)) A a ↔ owned δ A a := fun a => by
    constructor
    · rintro ⟨j, fs, h1, h2⟩
      rcases set_get h1 with ⟨rfl, _, e⟩ | ⟨_, e⟩
      · exact ⟨i, ds, hi, h2⟩
      · exact ⟨j, fs, e, h2⟩
    · rintro ⟨j, fs, h1, h2⟩
      by_cases c : i = j
      · subst c
        exact ⟨i, es, List.getElem?_set_self hil, h2⟩
      · exact ⟨j, fs, by rw [set_ne c]; exact h1, h2⟩
  have hS : (fun a => S a ∨ owned (δ.set i (.own es)) A a) = fun a => S a ∨ owned δ A a := by
    funext a; exact propext (or_congr Iff.rfl (hO a))
  have e2 : Same (hide (fun a => S a ∨ owned δ A a) H) (hide (fun a => S a ∨ owned δ A a) H1) := fun b u hb => by
    obtain ⟨c, hb⟩ := hide_some hb
    rw [hide_get c]
    exact e b u (by rw [hide_get (S := fun a => a = A i) (fun z => c (.inr ⟨i, ds, hi, z⟩))]; exact hb)
  obtain ⟨k1, h0, hSi, vs0, hv0, _⟩ := ok.own i ds hi
  refine { len := by rw [List.length_set]; exact ok.len, base := fun b u hb => e b u ?_, hid := fun a ha => ?_, dat := fun j d hj => ?_, own := fun j fs hj => ?_, inj := fun j j' fs gs h1 h2 e => ?_, pur := fun j hj => ?_ }
  · rw [hide_get (fun z => by rw [z, h0] at hb; cases hb)]
    exact ok.base _ _ hb
  · by_cases c : a = A i
    · rw [c, hw]; exact fun z => nomatch z
    · cases q : H a with
      | none => exact absurd q (ok.hid a ha)
      | some o =>
        rw [e a o (by rw [hide_get (S := fun a => a = A i) c]; exact q)]
        exact fun z => nomatch z
  · rcases set_get hj with ⟨_, _, e1⟩ | ⟨ne, hj⟩
    · cases e1
    · obtain ⟨u, h1, h2⟩ := ok.dat j d hj
      exact ⟨u, h1, by rw [hS]; exact h2.m e2⟩
  · rcases set_get hj with ⟨rfl, _, e1⟩ | ⟨ne, hj⟩
    · cases e1
      exact ⟨k1, h0, hSi, ws, hw, by rw [hS]; exact hr⟩
    · obtain ⟨h1, h2, h3, vs, h4, h5⟩ := ok.own j fs hj
      exact ⟨h1, h2, h3, vs, e _ _ (by rw [hide_get (fun z => ne (ok.inj i j ds fs hi hj z.symm))]; exact h4), by rw [hS]; exact h5.m e2⟩
  · rcases set_get h1 with ⟨rfl, _, _⟩ | ⟨_, h1⟩
    · rcases set_get h2 with ⟨e2, _, _⟩ | ⟨_, h2⟩
      · exact e2
      · exact ok.inj i j' ds gs hi h2 e
    · rcases set_get h2 with ⟨rfl, _, _⟩ | ⟨_, h2⟩
      · exact ok.inj j i fs ds h1 hi e
      · exact ok.inj j j' fs gs h1 h2 e
  · rcases set_get hj with ⟨_, _, e1⟩ | ⟨ne, hj⟩
    · cases e1
    · exact ok.pur j hj
end
section
variable {X : Cx} {δ : SEnv} {n : Bud} {N : SEnv → Bud → Prop} {R : Res → Bud → Prop} {e a b c : Expr} {st : Stmt} {sts as bs : List Stmt} {pos : Pos} {d x y : PyData} {ds xs ys : List PyData} {k : Bool} {r : Res}
theorem es_ifP (hc : ET X c (flatP δ xs) k) (h1 : k = true → EW X as δ (.lst xs) N R) (h2 : k = false → EW X bs δ (.lst xs) N R) : ES X (.If c as bs pos) δ (.lst xs) N R := fun p S H0 D σ H A ok pu hn hr => by
  refine sS_of (ps_if pt_s pss_s pss_s) ?_
  refine hc _ σ H _ (ok.okP pu) fun H1 s1 => ?_
  cases k with
  | true => exact iteT (h1 rfl p S H0 D σ H1 A (ok.m s1) (pu.m s1) hn hr)
  | false => exact iteF (h2 rfl p S H0 D σ H1 A (ok.m s1) (pu.m s1) hn hr)
theorem same_but {H : Hp} {p : Addr} {o : HO} : Same (hide (fun a => a = p) H) (upd H p o) := fun b u hb => by
  obtain ⟨c, hb⟩ := hide_some hb
  rw [upd_ne c]; exact hb
theorem es_appendP {x : Str} {px pm : Pos} (i : Nat) (hd : δ[i]? = some .purse) (he : EV X e (datO δ) d) (hN : N δ (.lst (xs ++ [d]))) (hnl : nl d = true) (hl : xs.length < sizeLine) (hNi : X.N[i]? = some x := by rfl)
    (hv : Vis X.env.scope x := by first | exact Or.inl rfl | exact Or.inr (Or.inl rfl) | exact Or.inr (Or.inr rfl)) (h1 : (x == ("__debug__" : Str)) = false := by decide) (h2 : (x == ("__classdict__" : Str)) = false := by decide)
    (hbase : attributeBase (.Name x px) "append" X.env (eval (.Name x px) X.env) = eval (.Name x px) X.env := by rfl)
    (hfew : ((backTo pos (starEach [e] X.env)).all (fun x => !x.1) && (backToKw pos (keywordEach [] X.env)).all (fun x => x.1.isSome) && decide (([e] : List Expr).length + ([] : List Keyword).length + (if ([] : List Keyword).isEmpty then 0 else 1) < 30)) = true := by rfl)
    (hline : (pm.endLine == pos.line) = true := by rfl) (hs : starEach [e] X.env = (false, eval e X.env) :: starEach [] X.env := by rfl) (hplain : (backTo pos (starEach [] X.env)).any (·.1) = false := by rfl)
    {pos2 : Pos} (hsw : swapsWith (.Call (.Attribute (.Name x px) "append" pm) [e] [] pos) none pos2.line X.env = pure false := by rfl) :
    ES X (.Expr (.Call (.Attribute (.Name x px) "append" pm) [e] [] pos) pos2) δ (.lst xs) N R := fun p S H0 D σ H A ok pu hn hr => by
  refine sS_of (ps_expr (pe_bm PySem.F.plainAttrs_list PySem.F.slot_list_append PySem.F.type_list_append mt_append (pe_var hNi hv h1 h2) (pa_cons pe_s pa_nil hs) hbase hfew hline hs hplain) hsw) ?_
  obtain ⟨k1, k2, k3⟩ := ok.pur i hd
  obtain ⟨hS, hnx, vs, k4, k5⟩ := id pu
  refine ⟨_, k1, .inl ⟨rfl, vs, SqL.of k4⟩, ?_⟩
  refine he _ σ H _ ok.okO fun v H1 s1 g1 => ?_
  have hz := k5.length
  refine ⟨p, vs, v, rfl, rfl, s1 _ _ k4, by omega, ?_⟩
  refine hn _ _ _ _ A hN ((ok.m s1).atP k2 k3 same_but (by rw [upd_same]; exact fun z => nomatch z)) ⟨hS, ?_, _, upd_same, ?_⟩
  · have : ∀ (l : List PyData), nlAll l = true → nlAll (l ++ [d]) = true := by
      intro l
      induction l with
      | nil => intro _; show (nl d && true) = true; rw [hnl] <;> rfl
      | cons z l ih =>
        intro h
        have h' : (nl z && nlAll l) = true := h
        rw [Bool.and_eq_true] at h'
        show (nl z && nlAll (l ++ [d])) = true
        rw [h'.1, ih h'.2] <;> rfl
    exact this xs hnx
  · rw [hide_upd hS]
    exact (k5.m (hide_same s1)).append (.cons (Rep.m (hide_anti fun a z => .inl z) g1) .nil)
theorem nlAll_init {l : List PyData} {d : PyData} (h : nlAll (l ++ [d]) = true) : nlAll l = true := by
  induction l with
  | nil => rfl
  | cons z l ih =>
    have h' : (nl z && nlAll (l ++ [d])) = true := h
    rw [Bool.and_eq_true] at h'
    show (nl z && nlAll l) = true
    rw [h'.1, ih h'.2] <;> rfl
theorem es_popP {x : Str} {px pm : Pos} (i : Nat) (hd : δ[i]? = some .purse) (hN : N δ (.lst xs)) (hNi : X.N[i]? = some x := by rfl)
    (hv : Vis X.env.scope x := by first | exact Or.inl rfl | exact Or.inr (Or.inl rfl) | exact Or.inr (Or.inr rfl)) (h1 : (x == ("__debug__" : Str)) = false := by decide) (h2 : (x == ("__classdict__" : Str)) = false := by decide)
    (hbase : attributeBase (.Name x px) "pop" X.env (eval (.Name x px) X.env) = eval (.Name x px) X.env := by rfl) (hline : (pm.endLine == pos.line) = true := by rfl)
    {pos2 : Pos} (hsw : swapsWith (.Call (.Attribute (.Name x px) "pop" pm) [] [] pos) none pos2.line X.env = pure false := by rfl) :
    ES X (.Expr (.Call (.Attribute (.Name x px) "pop" pm) [] [] pos) pos2) δ (.lst (xs ++ [d])) N R := fun p S H0 D σ H A ok pu hn hr => by
  refine sS_of (ps_expr (pe_bm0 PySem.F.plainAttrs_list PySem.F.slot_list_pop PySem.F.type_list_pop mt_pop (pe_var hNi hv h1 h2) hbase hline) hsw) ?_
  obtain ⟨k1, k2, k3⟩ := ok.pur i hd
  obtain ⟨hS, hnx, vs, k4, k5⟩ := id pu
  have hz := k5.length
  rw [List.length_append, List.length_singleton] at hz
  obtain ⟨y, hy, ry⟩ := k5.get (i := xs.length) (d := d) (by rw [List.getElem?_append_right (Nat.le_refl _)]; simp)
  refine ⟨_, k1, .inl ⟨rfl, vs, SqL.of k4⟩, p, vs, y, rfl, rfl, k4, by rw [hz]; exact hy, ?_⟩
  have h5 := k5.dropLast
  rw [List.dropLast_concat] at h5
  exact hn _ _ _ _ A hN (ok.atP k2 k3 same_but (by rw [upd_same]; exact fun z => nomatch z)) ⟨hS, nlAll_init hnx, _, upd_same, by rw [hide_upd hS]; exact h5⟩
/-- f(a, b, x), where x was handed in -/
theorem es_callP {m : Nat} {f x : Str} {pf px pos2 : Pos} {ps : List Str} {d1 d2 : PyData} {rel : List PyData → List PyData → List PyData → Prop} (i : Nat) (C : Cal X.prog X.w X.K X.mg X.base m f ps (spM X.K rel)) (hr0 : Room m X.A) (hd : δ[i]? = some .purse) (ha : EV X a (datO δ) d1) (hb : EV X b (datO δ) d2)
    (hrel : rel [d1, d2] xs ys) (hny : nlAll ys = true) (hN : N δ (.lst ys)) (hg : Gl X f := by rfl) (hNi : X.N[i]? = some x := by rfl)
    (hv : Vis X.env.scope x := by first | exact Or.inl rfl | exact Or.inr (Or.inl rfl) | exact Or.inr (Or.inr rfl)) (h1 : (x == ("__debug__" : Str)) = false := by decide) (h2 : (x == ("__classdict__" : Str)) = false := by decide)
    (hdf : (f == ("__debug__" : Str)) = false := by decide)
    (he1 : starEach [a, b, .Name x px] X.env = (false, eval a X.env) :: starEach [b, .Name x px] X.env := by rfl) (he2 : starEach [b, .Name x px] X.env = (false, eval b X.env) :: starEach [.Name x px] X.env := by rfl) (he3 : starEach [.Name x px] X.env = (false, eval (.Name x px) X.env) :: starEach [] X.env := by rfl)
    (hpl : (backTo pos (starEach [b, .Name x px] X.env)).any (·.1) = false := by rfl)
    (hsw : swapsWith (.Call (.Name f pf) [a, b, .Name x px] [] pos) none pos2.line X.env = pure false := by rfl) :
    ES X (.Expr (.Call (.Name f pf) [a, b, .Name x px] [] pos) pos2) δ (.lst xs) N R := fun p S H0 D σ H A ok pu hn hr => by
  obtain ⟨fa, fd, hm, hk, hbd, F⟩ := C.ex
  refine sS_of (ps_expr (pe_call F hr0 hg hm hk hbd .nil pass0 (pa_cons pe_s (pa_cons pe_s (pa_cons (pe_var hNi hv h1 h2) pa_nil he3) he2) he1) hdf he1 hpl) hsw) ?_
  obtain ⟨k1, k2, k3⟩ := ok.pur i hd
  refine ha _ σ H _ ok.okO fun v H1 s1 g1 => ?_
  refine hb _ σ H1 _ (ok.m s1).okO fun u H2 s2 g2 => ?_
  have ok2 := (ok.m s1).m s2
  obtain ⟨hS, hnx, vs, k4, k5⟩ := (Pu.m s2 (Pu.m s1 pu))
  refine ⟨_, k1, S, p, [d1, d2], xs, ys, [v, u], vs, ok2.hid, hS, rfl, .cons (Rep.m (hide_same s2) (Rep.m (hide_anti fun a z => .inl z) g1)) (.cons (Rep.m (hide_anti fun a z => .inl z) g2) .nil), k4, k5, hnx, hny, hrel, fun H' ws' e1 e2 e3 => ?_⟩
  exact hn _ _ _ _ A hN (ok2.atP k2 k3 e1 (by rw [e2]; exact fun z => nomatch z)) ⟨hS, hny, ws', e2, e3⟩
/-- f(a, b, x), where x is an own list -/
theorem es_callO {m : Nat} {f x : Str} {pf px pos2 : Pos} {ps : List Str} {d1 d2 : PyData} {rel : List PyData → List PyData → List PyData → Prop} (i : Nat) (C : Cal X.prog X.w X.K X.mg X.base m f ps (spM X.K rel)) (hr0 : Room m X.A) (hd : δ[i]? = some (.own xs)) (ha : EV X a (datO δ) d1) (hb : EV X b (datO δ) d2)
    (hrel : rel [d1, d2] xs ys) (hnx : nlAll xs = true) (hny : nlAll ys = true) (hN : N (δ.set i (.own ys)) .none) (hg : Gl X f := by rfl) (hNi : X.N[i]? = some x := by rfl)
    (hv : Vis X.env.scope x := by first | exact Or.inl rfl | exact Or.inr (Or.inl rfl) | exact Or.inr (Or.inr rfl)) (h1 : (x == ("__debug__" : Str)) = false := by decide) (h2 : (x == ("__classdict__" : Str)) = false := by decide)
    (hdf : (f == ("__debug__" : Str)) = false := by decide)
    (he1 : starEach [a, b, .Name x px] X.env = (false, eval a X.env) :: starEach [b, .Name x px] X.env := by rfl) (he2 : starEach [b, .Name x px] X.env = (false, eval b X.env) :: starEach [.Name x px] X.env := by rfl) (he3 : starEach [.Name x px] X.env = (false, eval (.Name x px) X.env) :: starEach [] X.env := by rfl)
    (hpl : (backTo pos (starEach [b, .Name x px] X.env)).any (·.1) = false := by rfl)
    (hsw : swapsWith (.Call (.Name f pf) [a, b, .Name x px] [] pos) none pos2.line X.env = pure false := by rfl) :
    ES X (.Expr (.Call (.Name f pf) [a, b, .Name x px] [] pos) pos2) δ .none N R := fun p S H0 D σ H A ok pu hn hr => by
  obtain ⟨fa, fd, hm, hk, hbd, F⟩ := C.ex
  refine sS_of (ps_expr (pe_call F hr0 hg hm hk hbd .nil pass0 (pa_cons pe_s (pa_cons pe_s (pa_cons (pe_var hNi hv h1 h2) pa_nil he3) he2) he1) hdf he1 hpl) hsw) ?_
  refine ha _ σ H _ ok.okO fun v H1 s1 g1 => ?_
  refine hb _ σ H1 _ (ok.m s1).okO fun u H2 s2 g2 => ?_
  have ok2 := (ok.m s1).m s2
  obtain ⟨k1, k2, k3, vs, k4, k5⟩ := ok2.own i xs hd
  refine ⟨_, k1, fun a => S a ∨ owned δ A a, A i, [d1, d2], xs, ys, [v, u], vs, ok2.okO.hid, .inr ⟨i, xs, hd, rfl⟩, rfl, .cons (Rep.m (hide_same s2) g1) (.cons g2 .nil), k4, k5, hnx, hny, hrel, fun H' ws' e1 e2 e3 => ?_⟩
  exact hn _ _ _ _ A hN (ok2.atOwn hd e1 e2 e3) trivial
end
def startM (N : List Str) (ds : List PyData) : SEnv := ds.map Slot.dat ++ Slot.purse :: List.replicate (N.length - ds.length - 1) Slot.unk
section
variable {P : Program} {w : World} {K : PySem.W.Frag} {mg : Str → Option Value} {base : Heap}
theorem startM_get {N : List Str} {ds : List PyData} {i : Nat} {s : Slot} (h : (startM N ds)[i]? = some s) : (∃ d, s = .dat d ∧ ds[i]? = some d) ∨ (s = .purse ∧ i = ds.length) ∨ s = .unk := by
  unfold startM at h
  rw [List.getElem?_append] at h
  split at h
  · rename_i hi
    rw [List.getElem?_map] at h
    cases q : ds[i]? with
    | none => rw [q] at h; cases h
    | some e => rw [q] at h; cases h; exact .inl ⟨e, rfl, rfl⟩
  · rename_i hi
    rw [List.length_map] at h hi
    cases hj : i - ds.length with
    | zero =>
      rw [hj] at h
      cases h
      exact .inr (.inl ⟨rfl, by omega⟩)
    | succ j =>
      rw [hj] at h
      have := List.mem_of_getElem? h
      rcases List.mem_cons.mp this with z | z
      · rw [List.getElem?_cons_succ] at h
        have := List.mem_of_getElem? h
        rw [List.mem_replicate] at this
        exact .inr (.inr this.2)
      · rw [List.mem_replicate] at z
        exact .inr (.inr z.2)
theorem Fun.okM {x qual : Str} {st : Stmt} {f : Addr} {fd : FuncData} {N ps : List Str} {k : Nat} (F : Fun K x qual st f fd) (Sc : FnScope N ps (defScope st)) (fr : List PyData → List PyData → List PyData → Prop) (hl : ∀ ds xs ys, fr ds xs ys → ds.length + 1 = ps.length) (hps : ps.length ≤ N.length)
    (body : ∀ (cdv : Value) (A : Around) (outer : List Env) (s : Shared) (H : Hp) (E : XK), Room k (A.deeper (envOfC qual (defScope st) s.heap.objs.size f cdv)) → ∀ ds xs ys, fr ds xs ys → nlAll xs = true →
      EW (cxOf CX0 P w K mg base N qual (defScope st) f cdv A outer s H E).nox (defBody st) (startM N ds) (.lst xs) (fun _ n => n = .lst ys) (fun r n => r = .dat .none ∧ n = .lst ys)) : FnOk P w K mg base CX0 (k + 1) f fd ps (spM K fr) := by
  refine F.ok Sc (fun vs H Q E h => ?_) (fun cdv A outer s H vs Q E hr h => ?_)
  · obtain ⟨S, p, ds, xs, ys, vs0, ws, _, _, e, h2, _, _, _, _, h3, _⟩ := h
    rw [e, List.length_append, h2.length, ← hl ds xs ys h3] <;> rfl
  · obtain ⟨S, p, ds, xs, ys, vs0, ws, hh, hS, rfl, h2, hp, hws, hnx, hny, h3, h4⟩ := h
    refine ⟨_, pss_s, ?_⟩
    have hlen := h2.length
    have hl3 := hl ds xs ys h3
    refine body cdv A outer s H E hr ds xs ys h3 hnx p S (hide (fun a => a = p) H) _ _ H (fun _ => 0) ?_ ⟨hS, hnx, ws, hp, hws⟩ (fun δ' n' σ' H' A' hN ok' pu' => ?_) (fun r' n' v H' hR s1 pu' g => ?_)
    · refine { len := ?_, base := hide_le, hid := hh, dat := fun i d hd => ?_, own := fun i es he => ?_, inj := fun i j es es' he => ?_, pur := fun i he => ?_ }
      · unfold startM L2.start
        rw [List.length_append, List.length_append, List.length_map, List.length_map, List.length_cons, List.length_replicate, List.length_replicate, List.length_append, hlen]
        show _ ≤ ds.length + 1 + (N.length - (ds.length + 1))
        omega
      · rcases startM_get hd with ⟨d', e, hd⟩ | ⟨e, _⟩ | e
        · cases e
          obtain ⟨v, q1, q2⟩ := h2.get hd
          refine ⟨v, start_get (by rw [List.getElem?_append_left (List.getElem?_eq_some_iff.mp q1).1]; exact q1), q2.m (hide_anti fun a z => z.elim id fun ⟨j, es, k1, _⟩ => ?_)⟩
          rcases startM_get k1 with ⟨_, e, _⟩ | ⟨e, _⟩ | e <;> cases e
        · cases e
        · cases e
      · rcases startM_get he with ⟨_, e, _⟩ | ⟨e, _⟩ | e <;> cases e
      · rcases startM_get he with ⟨_, e, _⟩ | ⟨e, _⟩ | e <;> cases e
      · rcases startM_get he with ⟨_, e, _⟩ | ⟨e, hi⟩ | e
        · cases e
        · refine ⟨start_get ?_, hS, hide_no rfl⟩
          rw [hi, ← hlen, List.getElem?_append_right (Nat.le_refl _)]
          simp
        · cases e
    · subst hN
      obtain ⟨_, _, ws', e1, e2⟩ := pu'
      exact h4 H' ws' ok'.base e1 e2
    · obtain ⟨rfl, rfl⟩ := hR
      obtain ⟨_, _, ws', e1, e2⟩ := pu'
      cases (show Rep K (hide S H') v .none from g)
      exact h4 H' ws' s1 e1 e2
end
end PU
namespace PU
open PySem PySem.Spec PyProof.Rows L2 StX MM
section
variable {X : Cx} {δ : PEnv} {e a b c : Expr} {es : List Expr} {pos : Pos} {d x y : PyData} {ds xs ys : List PyData} {k : Bool}
/-- [elt for tg in iter]: the results one by one -/
theorem el_lcE_core {elt tg iter : Expr} {scope : Scope} {own : List (Str × Nat)} {g : TG} (hc : X.calm = true) (hN : X.N.Nodup) (hi : EI X tg iter δ ds) (ok : BlkOk X.N X.env.scope scope own)
    (hg : ∀ (s : Shared) (H : Hp) (C : Addr) (cl : List (Str × Addr)) (fp : List Addr), PG (X.blk s H scope (compEnvC scope cl C X.env) fp) tg g)
    (hl : xs.length = ds.length) (hstep : ∀ (i : Nat) d x, ds[i]? = some d → xs[i]? = some x → ∃ t, TgtOk X.K (own.map (·.2)) g d t ∧ EGB X scope elt (t (wipeD δ (own.map (·.2)))) (.dat x))
    (hlen : ds.length ≤ sizeLine) (hs : ∀ x, foldedSetIterable iter X.env x = pure x := by intro _; rfl) :
    EL X (.ListComp elt [⟨tg, iter, [], 0⟩] scope pos) δ xs := fun S σ H Q okE q => by
  refine sE_of (pe_lc hc hN pi_s ok hg (fun _ _ _ _ _ => pts_nil) pe_sB hs) ?_
  refine hi S σ H _ okE fun J H1 s1 W => ?_
  intro D hD
  have hn0 := same_new hD
  let P : Nat → Hp → Prop := fun i H2 => Same H1 H2 ∧ ∃ vs, H2 D = some (.lst vs) ∧ RepAll X.K (hide (fun a => S a ∨ a = D) H2) vs (xs.take i)
  refine ⟨fun i m H2 => m = ds.length - i ∧ i ≤ ds.length ∧ P i H2, ⟨ds.length, by simp, Nat.zero_le _, hn0 _, [], upd_same, by rw [List.take_zero]; exact .nil⟩, ?_⟩
  rintro i m H2 ⟨rfl, hle, s2, vs, hv, hr⟩
  have sS : Same (hide S H1) (hide S H2) := hide_same s2
  have okH : Ok X.K (fun a => S a ∨ a = D) H2 σ δ := by
    have o1 := okE.m s1
    refine { len := o1.len, hid := fun a ha => ?_, dat := fun j d hj => ?_ }
    · rcases ha with ha | ha
      · exact (o1.m s2).hid a ha
      · subst ha; rw [hv]; exact fun z => nomatch z
    · obtain ⟨v, h1, h2⟩ := o1.dat j d hj
      exact ⟨v, h1, h2.m (hide_free hD s2)⟩
  by_cases hlt : i < ds.length
  · refine .inr ⟨W.go H2 i sS hlt, P (i + 1), fun H' p' => ⟨ds.length - (i + 1), by omega, rfl, hlt, p'⟩, fun x H' hy => ?_⟩
    obtain ⟨s3, d, hd, hx⟩ := W.yld (fun a => S a ∨ a = D) H2 i x H' okH.hid (fun a ha => ha.elim .inl fun e => .inr (by rw [e]; exact hD)) sS hlt hy
    have hxi : xs[i]? = some xs[i] := List.getElem?_eq_getElem (by rw [hl]; exact hlt)
    obtain ⟨t, tg1, el1⟩ := hstep i d _ hd hxi
    refine tg1 (fun a => S a ∨ a = D) σ H' x (wipeD δ (own.map (·.2))) _ hx ((okH.m s3).wipe _) fun σ2 hw2 ok2 => ⟨hw2, ?_⟩
    refine iteT (B := P (i + 1) H') ?_
    intro sh Hh C cl fp
    refine el1 sh Hh C cl fp (fun a => S a ∨ a = D) σ2 H' _ ok2 fun y H4 s5 g5 => ?_
    have s6 : Same H2 H4 := s3.trans s5
    have hD4 := s6 _ _ hv
    have hrl := hr.length
    rw [List.length_take] at hrl
    refine ⟨vs, hD4, by have := Nat.min_le_left i xs.length; omega, fun b u hb => ?_, vs ++ [y], upd_same, ?_⟩
    · rw [upd_ne (ne_of_none hb hD)]
      exact s6 _ _ (s2 _ _ hb)
    · have e0 : hide (fun a => S a ∨ a = D) (upd H4 D (.lst (vs ++ [y]))) = hide (fun a => S a ∨ a = D) H4 := hide_upd (.inr rfl)
      rw [e0, List.take_add_one, hxi]
      exact (hr.m (hide_same s6)).append (.cons g5 .nil)
  · have e : i = ds.length := by omega
    subst e
    refine .inl ⟨W.stop H2 sS, q _ _ (s1.trans s2) ⟨D, vs, rfl, s1.free hD, hv, ?_⟩⟩
    rw [← hl, List.take_length] at hr
    exact hr
theorem map_get {α β : Type} {l : List α} {g : α → β} {i : Nat} {y : β} (h : (l.map g)[i]? = some y) : ∃ x, l[i]? = some x ∧ x ∈ l ∧ y = g x := by
  rw [List.getElem?_map] at h
  cases q : l[i]? with
  | none => rw [q] at h; cases h
  | some x => rw [q] at h; exact ⟨x, rfl, List.mem_of_getElem? q, (Option.some.inj h).symm⟩
/-- over a list of typed things -/
theorem el_lcT {α : Type} {elt iter : Expr} {scope : Scope} {x : Str} {px : Pos} {l : List α} {g f : α → PyData} (i : Nat) (hN : X.N.Nodup) (hi : EI X (.Name x px) iter δ (l.map g)) (hb : blkC X.N X.env.scope scope [(x, i)] = true)
    (hstep : ∀ y ∈ l, EGB X scope elt ((wipeD δ [i]).set i (some (g y))) (.dat (f y))) (hlen : l.length ≤ sizeLine)
    (hNi : X.N[i]? = some x := by rfl) (hc : X.calm = true := by rfl) (hg : ∀ (s : Shared) (H : Hp) (C : Addr) (cl : List (Str × Addr)) (fp : List Addr), PG (X.blk s H scope (compEnvC scope cl C X.env) fp) (.Name x px) (gName i) := by exact fun _ _ _ _ _ => pg_name (by assumption) rfl (Or.inl rfl))
    (hs : ∀ x, foldedSetIterable iter X.env x = pure x := by intro _; rfl) :
    EL X (.ListComp elt [⟨.Name x px, iter, [], 0⟩] scope pos) δ (l.map f) :=
  el_lcE_core hc hN hi (blkOk_by hb) hg (by rw [List.length_map, List.length_map]) (fun j d z hd hz => by
    obtain ⟨y, h1, h2, rfl⟩ := map_get hd
    obtain ⟨y', h3, _, rfl⟩ := map_get hz
    rw [h1] at h3
    cases h3
    exact ⟨_, tgt_name (i := i) (by simp), hstep y h2⟩) (by rw [List.length_map]; exact hlen) hs
/-- over a list of typed pairs -/
theorem el_lcT2 {α : Type} {elt iter : Expr} {scope : Scope} {x y : Str} {px py pt : Pos} {kk : Nat} {l : List α} {g1 g2 f : α → PyData} (i j : Nat) (hN : X.N.Nodup) (hi : EI X (.Tuple [.Name x px, .Name y py] kk pt) iter δ (l.map fun z => PyData.tuple [g1 z, g2 z])) (hb : blkC X.N X.env.scope scope [(x, i), (y, j)] = true)
    (hstep : ∀ z ∈ l, EGB X scope elt (((wipeD δ [i, j]).set i (some (g1 z))).set j (some (g2 z))) (.dat (f z))) (hlen : l.length ≤ sizeLine)
    (hg : ∀ (s : Shared) (H : Hp) (C : Addr) (cl : List (Str × Addr)) (fp : List Addr), PG (X.blk s H scope (compEnvC scope cl C X.env) fp) (.Tuple [.Name x px, .Name y py] kk pt) (gTup X.K 2 (gCons (gName i) (gCons (gName j) gNil))))
    (hc : X.calm = true := by rfl) (hs : ∀ x, foldedSetIterable iter X.env x = pure x := by intro _; rfl) :
    EL X (.ListComp elt [⟨.Tuple [.Name x px, .Name y py] kk pt, iter, [], 0⟩] scope pos) δ (l.map f) :=
  el_lcE_core hc hN hi (blkOk_by hb) hg (by rw [List.length_map, List.length_map]) (fun j' d z hd hz => by
    obtain ⟨y, h1, h2, rfl⟩ := map_get hd
    obtain ⟨y', h3, _, rfl⟩ := map_get hz
    rw [h1] at h3
    cases h3
    exact ⟨_, tgt_pair (i := i) (j := j) (by simp) (by simp), hstep y h2⟩) (by rw [List.length_map]; exact hlen) hs
end
end PU
namespace PU
open PySem PySem.Spec PyProof.Rows L2 StX MM

def top (i : Nat) : Stmt := PySem.Challenge.pw_phrasejoins_k21_whole_chains_and_alike_t.main.body.getD i (.Pass ⟨0, 0, 0, 0⟩)
theorem okw_len {w : Str} (h : okw w = true) : 0 < w.length ∧ w.length < 9 ∧ ∀ c ∈ w.cps.toList, c ∈ abc := by
  unfold okw at h
  rw [Bool.and_eq_true, Bool.and_eq_true] at h
  exact ⟨of_decide_eq_true h.1.1, of_decide_eq_true h.1.2, fun c hc => of_decide_eq_true (List.all_eq_true.mp h.2 c hc)⟩
theorem signs_len (z : Str) : (signs z).length = z.length := by unfold signs; rw [List.length_map, Array.length_toList] <;> rfl
section
variable {P : Program} {w : World} {K : PySem.W.Frag} {mg : Str → Option Value} {base : Heap} {f : Addr} {fd : FuncData}

/-! ### is_count -/
abbrev st_is_count : Stmt := top 6
theorem sc_is_count : FnScope ["value"] ["value"] (defScope st_is_count) := ⟨rfl, rfl, rfl, by decide +kernel, rfl, by decide +kernel, by decide +kernel⟩
def r_is_count : List PyData → Res → Prop := fun ds r => ∃ i : Int, ds = [.int i] ∧ 0 ≤ i ∧ r = .dat (.bool true)
theorem ok_is_count (G : Mg K mg)  (F : Fun K "is_count" "is_count" st_is_count f fd) : FnOk P w K mg base CX0 1 f fd ["value"] (spR K r_is_count) := by
  refine Fun.okR F sc_is_count r_is_count (by rintro _ _ ⟨_, rfl, _⟩; rfl) fun cdv A outer s H E hr ds r h => ?_
  have nd := sc_is_count.nd
  obtain ⟨i, rfl, hi, rfl⟩ := h
  exact (ew_one (es_ret (ev_andT (G.isi .int rfl rfl rfl (ev_var 0 rfl)) (ev_andT (ev_not (G.isi .bool rfl rfl rfl (ev_var 0 rfl))) (ev_one (ev_cmp (CmpR.to cm_ge (decide_eq_true hi)) (ev_var 0 rfl) ev_int)))) rfl))
/-! ### is_word -/
abbrev st_is_word : Stmt := top 7
theorem sc_is_word : FnScope ["value", "letter"] ["value"] (defScope st_is_word) := ⟨rfl, rfl, rfl, by decide +kernel, rfl, by decide +kernel, by decide +kernel⟩
def r_is_word : List PyData → Res → Prop := fun ds r => ∃ w : Str, ds = [.str w] ∧ okw w = true ∧ r = .dat (.bool true)
theorem ok_is_word (G : Mg K mg)  (F : Fun K "is_word" "is_word" st_is_word f fd) : FnOk P w K mg base CX0 1 f fd ["value"] (spR K r_is_word) := by
  refine Fun.okR F sc_is_word r_is_word (by rintro _ _ ⟨_, rfl, _⟩; rfl) fun cdv A outer s H E hr ds r h => ?_
  have nd := sc_is_word.nd
  obtain ⟨z, rfl, hz, rfl⟩ := h
  obtain ⟨h1, h2, h3⟩ := okw_len hz
  exact (ew_one (es_ret (ev_andT (G.isi .str rfl rfl rfl (ev_var 0 rfl)) (ev_andT (ev_chain (CmpR.to cm_lt (decide_eq_true (by omega))) (CmpR.to cm_lt (decide_eq_true (by omega))) ev_int (eg_callB (cr_lenS (le_line (by omega))) (ea_cons (ev_var 0 rfl) ea_nil) G.len boot_len) ev_int) (ev_one (eg_callB (cr_allT fun d hd => by obtain ⟨_, _, rfl⟩ := List.mem_map.mp hd; rfl) (ea_cons (el_lc 1 (f := fun _ => .bool true) nd (ei_str (ev_var 0 rfl)) (show blkC ["value", "letter"] (defScope st_is_word) _ _ = true by decide +kernel) (fun d hd => by obtain ⟨c, hc, rfl⟩ := List.mem_map.mp hd; exact fun _ _ _ _ _ => (ev_cmp (CmpR.to cm_inS (decide_eq_true (by rw [abc_eq]; exact h3 c hc))) (ev_var 1 rfl) (G.vLETTERS rfl))) (le_line (by rw [signs_len]; omega))).ev ea_nil) G.all rfl)))) rfl))
/-! ### is_kind_in -/
abbrev st_is_kind_in : Stmt := top 10
theorem sc_is_kind_in : FnScope ["value"] ["value"] (defScope st_is_kind_in) := ⟨rfl, rfl, rfl, by decide +kernel, rfl, by decide +kernel, by decide +kernel⟩
def r_is_kind_in (n : Nat) : List PyData → Res → Prop := fun ds r => ∃ k : Kd, ds = [emb k] ∧ k.ok = true ∧ k.dep ≤ n ∧ r = .dat (.bool true)
theorem ok_is_kind_in (G : Mg K mg) (C_is_word : Cal P w K mg base 1 "is_word" ["value"] (spR K r_is_word)) (F : Fun K "is_kind_in" "is_kind_in" st_is_kind_in f fd) (bF : Binds K fd ["value"] []) (mF : mg "is_kind_in" = some (.ref f)) :
    ∀ n : Nat, FnOk P w K mg base CX0 (n + 2) f fd ["value"] (spR K (r_is_kind_in n)) := by
  have key : ∀ n : Nat, (∀ m, n = m + 1 → Cal P w K mg base (n + 1) "is_kind_in" ["value"] (spR K (r_is_kind_in m))) → FnOk P w K mg base CX0 (n + 2) f fd ["value"] (spR K (r_is_kind_in n)) := by
    intro n ih
    refine Fun.okR F sc_is_kind_in (r_is_kind_in n) (by rintro _ _ ⟨_, rfl, _⟩; rfl) fun cdv A outer s H E hr ds r h => ?_
    have nd := sc_is_kind_in.nd
    obtain ⟨k, rfl, hk, hd, rfl⟩ := h
    cases k with
    | pl w => exact (ew_cons (es_ifT (et_val (G.isi .str rfl rfl rfl (ev_var 0 rfl))) (ew_one (es_ret (eg_call C_is_word (hr.mono (by omega)) (ea_cons (ev_var 0 rfl) ea_nil) ⟨_, rfl, hk, rfl⟩) rfl))))
    | ov a b =>
      cases n with
      | zero => simp [Kd.dep] at hd
      | succ m =>
        have C_is_kind_in := ih m rfl
        exact (ew_cons (es_ifF (et_val (G.isi .str rfl rfl rfl (ev_var 0 rfl))) (ew_nil 
  (ew_cons (es_ifF (et_bw (eb_orF (et_not (et_val (G.isi .tuple rfl rfl rfl (ev_var 0 rfl)))) (eb_orF (et_cmp (CmpR.to cm_neI rfl) (eg_callB (cr_len rfl) (ea_cons (ev_var 0 rfl) ea_nil) G.len boot_len) ev_int) (eb_orF (et_not (et_val (G.isi .str rfl rfl rfl (ev_ix (ev_var 0 rfl) ev_int rfl)))) (eb_or1 (et_cmp (CmpR.to (cm_notInT (l := ["over", "then", "under"])) (by decide +kernel)) (ev_ix (ev_var 0 rfl) ev_int rfl) (G.vSIGNS rfl))))))) (ew_nil 
  (ew_one (es_ret (ev_andT (eg_call C_is_kind_in (hr.mono (by omega)) (ea_cons (ev_ix (ev_var 0 rfl) ev_int rfl) ea_nil) ⟨a, rfl, (ok2 hk).1, by have := hd; simp only [Kd.dep] at this; omega, rfl⟩) (ev_one (eg_call C_is_kind_in (hr.mono (by omega)) (ea_cons (ev_ix (ev_var 0 rfl) ev_int rfl) ea_nil) ⟨b, rfl, (ok2 hk).2, by have := hd; simp only [Kd.dep] at this; omega, rfl⟩))) rfl))))))))
    | un a b =>
      cases n with
      | zero => simp [Kd.dep] at hd
      | succ m =>
        have C_is_kind_in := ih m rfl
        exact (ew_cons (es_ifF (et_val (G.isi .str rfl rfl rfl (ev_var 0 rfl))) (ew_nil 
  (ew_cons (es_ifF (et_bw (eb_orF (et_not (et_val (G.isi .tuple rfl rfl rfl (ev_var 0 rfl)))) (eb_orF (et_cmp (CmpR.to cm_neI rfl) (eg_callB (cr_len rfl) (ea_cons (ev_var 0 rfl) ea_nil) G.len boot_len) ev_int) (eb_orF (et_not (et_val (G.isi .str rfl rfl rfl (ev_ix (ev_var 0 rfl) ev_int rfl)))) (eb_or1 (et_cmp (CmpR.to (cm_notInT (l := ["over", "then", "under"])) (by decide +kernel)) (ev_ix (ev_var 0 rfl) ev_int rfl) (G.vSIGNS rfl))))))) (ew_nil 
  (ew_one (es_ret (ev_andT (eg_call C_is_kind_in (hr.mono (by omega)) (ea_cons (ev_ix (ev_var 0 rfl) ev_int rfl) ea_nil) ⟨a, rfl, (ok2 hk).1, by have := hd; simp only [Kd.dep] at this; omega, rfl⟩) (ev_one (eg_call C_is_kind_in (hr.mono (by omega)) (ea_cons (ev_ix (ev_var 0 rfl) ev_int rfl) ea_nil) ⟨b, rfl, (ok2 hk).2, by have := hd; simp only [Kd.dep] at this; omega, rfl⟩))) rfl))))))))
    | th a b =>
      cases n with
      | zero => simp [Kd.dep] at hd
      | succ m =>
        have C_is_kind_in := ih m rfl
        exact (ew_cons (es_ifF (et_val (G.isi .str rfl rfl rfl (ev_var 0 rfl))) (ew_nil 
  (ew_cons (es_ifF (et_bw (eb_orF (et_not (et_val (G.isi .tuple rfl rfl rfl (ev_var 0 rfl)))) (eb_orF (et_cmp (CmpR.to cm_neI rfl) (eg_callB (cr_len rfl) (ea_cons (ev_var 0 rfl) ea_nil) G.len boot_len) ev_int) (eb_orF (et_not (et_val (G.isi .str rfl rfl rfl (ev_ix (ev_var 0 rfl) ev_int rfl)))) (eb_or1 (et_cmp (CmpR.to (cm_notInT (l := ["over", "then", "under"])) (by decide +kernel)) (ev_ix (ev_var 0 rfl) ev_int rfl) (G.vSIGNS rfl))))))) (ew_nil 
  (ew_one (es_ret (ev_andT (eg_call C_is_kind_in (hr.mono (by omega)) (ea_cons (ev_ix (ev_var 0 rfl) ev_int rfl) ea_nil) ⟨a, rfl, (ok2 hk).1, by have := hd; simp only [Kd.dep] at this; omega, rfl⟩) (ev_one (eg_call C_is_kind_in (hr.mono (by omega)) (ea_cons (ev_ix (ev_var 0 rfl) ev_int rfl) ea_nil) ⟨b, rfl, (ok2 hk).2, by have := hd; simp only [Kd.dep] at this; omega, rfl⟩))) rfl))))))))
  intro n
  induction n with
  | zero => exact key 0 fun m e => by cases e
  | succ n ih => exact key (n + 1) fun m e => by cases e; exact cal_of mF F.kp bF ih
/-! ### check_kind -/
abbrev st_check_kind : Stmt := top 11
theorem sc_check_kind : FnScope ["value"] ["value"] (defScope st_check_kind) := ⟨rfl, rfl, rfl, by decide +kernel, rfl, by decide +kernel, by decide +kernel⟩
def r_check_kind : List PyData → Res → Prop := fun ds r => ∃ k : Kd, ds = [emb k] ∧ k.ok = true ∧ k.dep ≤ 40 ∧ r = .dat .none
theorem ok_check_kind (G : Mg K mg) (C_is_kind_in : Cal P w K mg base 42 "is_kind_in" ["value"] (spR K (r_is_kind_in 40))) (F : Fun K "check_kind" "check_kind" st_check_kind f fd) : FnOk P w K mg base CX0 43 f fd ["value"] (spR K r_check_kind) := by
  refine Fun.okR F sc_check_kind r_check_kind (by rintro _ _ ⟨_, rfl, _⟩; rfl) fun cdv A outer s H E hr ds r h => ?_
  have nd := sc_check_kind.nd
  obtain ⟨k, rfl, hk, hd, rfl⟩ := h
  exact (ew_one (es_ifF (et_not (et_val (eg_call C_is_kind_in (hr.mono (by omega)) (ea_cons (ev_var 0 rfl) ea_nil) ⟨k, rfl, hk, hd, rfl⟩))) (ew_nil rfl)))
/-! ### check_word -/
abbrev st_check_word : Stmt := top 27
theorem sc_check_word : FnScope ["value"] ["value"] (defScope st_check_word) := ⟨rfl, rfl, rfl, by decide +kernel, rfl, by decide +kernel, by decide +kernel⟩
def r_check_word : List PyData → Res → Prop := fun ds r => ∃ w : Str, ds = [.str w] ∧ okw w = true ∧ r = .dat .none
theorem ok_check_word (G : Mg K mg) (C_is_word : Cal P w K mg base 1 "is_word" ["value"] (spR K r_is_word)) (F : Fun K "check_word" "check_word" st_check_word f fd) : FnOk P w K mg base CX0 2 f fd ["value"] (spR K r_check_word) := by
  refine Fun.okR F sc_check_word r_check_word (by rintro _ _ ⟨_, rfl, _⟩; rfl) fun cdv A outer s H E hr ds r h => ?_
  have nd := sc_check_word.nd
  obtain ⟨z, rfl, hz, rfl⟩ := h
  exact (ew_one (es_ifF (et_not (et_val (eg_call C_is_word (hr.mono (by omega)) (ea_cons (ev_var 0 rfl) ea_nil) ⟨_, rfl, hz, rfl⟩))) (ew_nil rfl)))
/-! ### words_in -/
abbrev st_words_in : Stmt := top 12
theorem sc_words_in : FnScope ["kind"] ["kind"] (defScope st_words_in) := ⟨rfl, rfl, rfl, by decide +kernel, rfl, by decide +kernel, by decide +kernel⟩
def words : Kd → List Str
  | .pl w => [w]
  | .ov a b => words a ++ words b
  | .un a b => words a ++ words b
  | .th a b => words a ++ words b
theorem words_len : ∀ k : Kd, (words k).length = k.sg + 1
  | .pl _ => rfl
  | .ov a b => by have := words_len a; have := words_len b; simp only [words, Kd.sg, List.length_append]; omega
  | .un a b => by have := words_len a; have := words_len b; simp only [words, Kd.sg, List.length_append]; omega
  | .th a b => by have := words_len a; have := words_len b; simp only [words, Kd.sg, List.length_append]; omega
theorem words_ok : ∀ {k : Kd}, k.ok = true → ∀ w ∈ words k, okw w = true
  | .pl w, h, x, hx => by rw [show words (.pl w) = [w] from rfl, List.mem_singleton] at hx; subst hx; exact h
  | .ov a b, h, x, hx => (List.mem_append.mp hx).elim (words_ok (ok2 h).1 x) (words_ok (ok2 h).2 x)
  | .un a b, h, x, hx => (List.mem_append.mp hx).elim (words_ok (ok2 h).1 x) (words_ok (ok2 h).2 x)
  | .th a b, h, x, hx => (List.mem_append.mp hx).elim (words_ok (ok2 h).1 x) (words_ok (ok2 h).2 x)
def r_words_in (n : Nat) : List PyData → Res → Prop := fun ds r => ∃ k : Kd, ds = [emb k] ∧ k.sg ≤ n ∧ r = .fresh (strsD (words k))
theorem strs_app (a b : List Str) : strsD a ++ (strsD b ++ []) = strsD (a ++ b) := by unfold strsD; rw [List.append_nil, List.map_append]
theorem ok_words_in (G : Mg K mg) (F : Fun K "words_in" "words_in" st_words_in f fd) (bF : Binds K fd ["kind"] []) (mF : mg "words_in" = some (.ref f)) :
    ∀ n : Nat, n ≤ 10 → FnOk P w K mg base CX0 (n + 1) f fd ["kind"] (spR K (r_words_in n)) := by
  have key : ∀ n : Nat, n ≤ 10 → (∀ m, n = m + 1 → Cal P w K mg base n "words_in" ["kind"] (spR K (r_words_in m))) → FnOk P w K mg base CX0 (n + 1) f fd ["kind"] (spR K (r_words_in n)) := by
    intro n h10 ih
    refine Fun.okR F sc_words_in (r_words_in n) (by rintro _ _ ⟨_, rfl, _⟩; rfl) fun cdv A outer s H E hr ds r h => ?_
    have nd := sc_words_in.nd
    obtain ⟨k, rfl, hd, rfl⟩ := h
    cases k with
    | pl w => exact (ew_one (es_ret (eg_ifT (et_val (G.isi .str rfl rfl rfl (ev_var 0 rfl))) (el_lst (ea_cons (ev_var 0 rfl) ea_nil) (small_len rfl))) rfl))
    | ov a b =>
      cases n with
      | zero => simp [Kd.sg] at hd
      | succ m =>
        have C_words_in := ih m rfl
        exact (ew_one (es_ret (eg_ifF (et_val (G.isi .str rfl rfl rfl (ev_var 0 rfl))) (el_lst (ea_star (eg_call C_words_in (hr.mono (by omega)) (ea_cons (ev_ix (ev_var 0 rfl) ev_int rfl) ea_nil) ⟨a, rfl, by have := hd; simp only [Kd.sg] at this; omega, rfl⟩).ev (ea_star (eg_call C_words_in (hr.mono (by omega)) (ea_cons (ev_ix (ev_var 0 rfl) ev_int rfl) ea_nil) ⟨b, rfl, by have := hd; simp only [Kd.sg] at this; omega, rfl⟩).ev ea_nil)) (le_line (by have h1 := words_len a; have h2 := words_len b; have := hd; simp only [Kd.sg] at this; simp [strsD] <;> omega)))) (congrArg Res.fresh (strs_app _ _))))
    | un a b =>
      cases n with
      | zero => simp [Kd.sg] at hd
      | succ m =>
        have C_words_in := ih m rfl
        exact (ew_one (es_ret (eg_ifF (et_val (G.isi .str rfl rfl rfl (ev_var 0 rfl))) (el_lst (ea_star (eg_call C_words_in (hr.mono (by omega)) (ea_cons (ev_ix (ev_var 0 rfl) ev_int rfl) ea_nil) ⟨a, rfl, by have := hd; simp only [Kd.sg] at this; omega, rfl⟩).ev (ea_star (eg_call C_words_in (hr.mono (by omega)) (ea_cons (ev_ix (ev_var 0 rfl) ev_int rfl) ea_nil) ⟨b, rfl, by have := hd; simp only [Kd.sg] at this; omega, rfl⟩).ev ea_nil)) (le_line (by have h1 := words_len a; have h2 := words_len b; have := hd; simp only [Kd.sg] at this; simp [strsD] <;> omega)))) (congrArg Res.fresh (strs_app _ _))))
    | th a b =>
      cases n with
      | zero => simp [Kd.sg] at hd
      | succ m =>
        have C_words_in := ih m rfl
        exact (ew_one (es_ret (eg_ifF (et_val (G.isi .str rfl rfl rfl (ev_var 0 rfl))) (el_lst (ea_star (eg_call C_words_in (hr.mono (by omega)) (ea_cons (ev_ix (ev_var 0 rfl) ev_int rfl) ea_nil) ⟨a, rfl, by have := hd; simp only [Kd.sg] at this; omega, rfl⟩).ev (ea_star (eg_call C_words_in (hr.mono (by omega)) (ea_cons (ev_ix (ev_var 0 rfl) ev_int rfl) ea_nil) ⟨b, rfl, by have := hd; simp only [Kd.sg] at this; omega, rfl⟩).ev ea_nil)) (le_line (by have h1 := words_len a; have h2 := words_len b; have := hd; simp only [Kd.sg] at this; simp [strsD] <;> omega)))) (congrArg Res.fresh (strs_app _ _))))
  intro n
  induction n with
  | zero => exact fun h => key 0 h fun m e => by cases e
  | succ n ih => exact fun h => key (n + 1) h fun m e => by cases e; exact cal_of mF F.kp bF (ih (by omega))
/-! ### plains_in -/
abbrev st_plains_in : Stmt := top 13
theorem sc_plains_in : FnScope ["kind", "word"] ["kind"] (defScope st_plains_in) := ⟨rfl, rfl, rfl, by decide +kernel, rfl, by decide +kernel, by decide +kernel⟩
def r_plains_in : List PyData → (Res → Prop) → Prop := fun ds Ps => ∃ k : Kd, ds = [emb k] ∧ k.sg ≤ 2 ∧ ∀ ys : List Str, (∀ y ∈ ys, y ∈ words k) → ys ≠ [] → Ps (.fresh (strsD ys))
theorem ok_plains_in (G : Mg K mg) (C_words_in : Cal P w K mg base 3 "words_in" ["kind"] (spR K (r_words_in 2))) (F : Fun K "plains_in" "plains_in" st_plains_in f fd) : FnOk P w K mg base CX0 4 f fd ["kind"] (spN K r_plains_in) := by
  refine Fun.okN F sc_plains_in r_plains_in (by rintro _ _ ⟨_, rfl, _⟩; rfl) fun cdv A outer s H E hr ds r h => ?_
  have nd := sc_plains_in.nd
  obtain ⟨k, rfl, hd, hP⟩ := h
  have hl := words_len k
  refine ew_one (es_retNn (en_sortedKeys (ws := words k) 1 nd (ei_list (eg_call C_words_in (hr.mono (by omega)) (ea_cons (ev_var 0 rfl) ea_nil) ⟨k, rfl, hd, rfl⟩).ev) (show blkC ["kind", "word"] (defScope st_plains_in) _ _ = true by decide +kernel) (fun w hw _ _ _ _ _ => ev_var 1 rfl) (by omega) G.sorted (by decide +kernel) (fun _ _ _ _ _ => pg_name nd rfl (Or.inl rfl))) ?_)
  rintro r ⟨ys, rfl, h1, h2⟩
  exact hP ys h1 (h2 (by intro e; rw [e] at hl; simp at hl))
end
end PU
namespace PU
open PySem PySem.Spec PyProof.Rows L2 StX MM

theorem sIx_neg1 (n d : Nat) : HT.sIx n d (some (-1)) = n - 1 := by
  unfold HT.sIx
  simp <;> omega
theorem cut_init {α : Type} (l : List α) (x : α) : cutD (l ++ [x]) none (some (-1)) = l := by
  unfold cutD
  rw [HT.sIx_none, sIx_neg1, List.length_append, List.drop_zero]
  simp
theorem cut_from {α : Type} (l : List α) (k : Nat) : cutD l (some (k : Int)) none = l.drop k := by
  unfold cutD
  rw [HT.sIx_none, HT.sIx_nat]
  by_cases h : k ≤ l.length
  · rw [Nat.min_eq_left h, List.take_of_length_le]
    rw [List.length_drop]; exact Nat.le_refl _
  · rw [Nat.min_eq_right (by omega), List.drop_length, List.drop_eq_nil_of_le (by omega), List.take_nil]
theorem cut_to {α : Type} (l : List α) (k : Nat) : cutD l none (some (k : Int)) = l.take k := by
  unfold cutD
  rw [HT.sIx_none, HT.sIx_nat, List.drop_zero, Nat.sub_zero]
  by_cases h : k ≤ l.length
  · rw [Nat.min_eq_left h]
  · rw [Nat.min_eq_right (by omega), List.take_length, List.take_of_length_le (by omega)]
theorem cut_tail {α : Type} (l : List α) (x : α) : cutD (x :: l) (some 1) none = l := cut_from (x :: l) 1
theorem cut_zero {α : Type} (l : List α) : cutD l none (some 0) = [] := by rw [show (0 : Int) = ((0 : Nat) : Int) from rfl, cut_to, List.take_zero]
theorem at_zero {α : Type} (x : α) (l : List α) : atI (x :: l) 0 = some x := atI_nat (j := 0) rfl
theorem cut_tailK (A : Kd) (r : List Kd) : cutD (embK (A :: r)) (some 1) none = embK r := cut_tail _ _
theorem embK_app (r s : List Kd) : embK (r ++ s) = embK r ++ embK s := List.map_append
theorem embK_len (r : List Kd) : (embK r).length = r.length := List.length_map _
theorem embC_len (r : Chain) : (embC r).length = r.length := List.length_map _
theorem embL_len (r : List Lt) : (embL r).length = r.length := List.length_map _
theorem ix_last (r : List Kd) (B : Kd) : ixD (.list (embK (r ++ [B]))) (-1) = some (emb B) := by
  show atI (embK (r ++ [B])) (-1) = _
  rw [embK_app]
  exact atI_last _ _
/-- what a derivation tells, as data -/
def embR (r : List Kd) (g : Kd) : PyData := .tuple [.list (embK r), emb g]

section
variable {P : Program} {w : World} {K : PySem.W.Frag} {mg : Str → Option Value} {base : Heap} {f : Addr} {fd : FuncData}

/-! ### made_of -/
abbrev st_made_of : Stmt := top 17
theorem sc_made_of : FnScope ["word", "told", "row", "goal"] ["word", "told"] (defScope st_made_of) := ⟨rfl, rfl, rfl, by decide +kernel, rfl, by decide +kernel, by decide +kernel⟩
def r_made_of : List PyData → Res → Prop := fun ds r => ∃ (b : Bool) (x : List Kd) (A B : Kd), x ≠ [] ∧ x.length ≤ 4 ∧
  ((b = true ∧ ds = [.str "over made", embR (x ++ [B]) A] ∧ r = .dat (embR x (.ov A B))) ∨ (b = false ∧ ds = [.str "under made", embR (B :: x) A] ∧ r = .dat (embR x (.un B A))))
theorem ok_made_of (G : Mg K mg) (F : Fun K "made_of" "made_of" st_made_of f fd) : FnOk P w K mg base CX0 1 f fd ["word", "told"] (spR K r_made_of) := by
  refine Fun.okR F sc_made_of r_made_of (by rintro _ _ ⟨_, _, _, _, _, _, ⟨_, rfl, _⟩ | ⟨_, rfl, _⟩⟩ <;> rfl) fun cdv A outer s H E hr ds r h => ?_
  have nd := sc_made_of.nd
  obtain ⟨b, x, A, B, hr0, h4, ⟨_, rfl, rfl⟩ | ⟨_, rfl, rfl⟩⟩ := h
  · exact (ew_cons (es_unp 2 3 (ev_var 1 rfl) 
  (ew_cons (es_ifF (et_cmp (CmpR.to cm_lt (decide_eq_false (by have := List.length_pos_iff.mpr hr0; rw [embK_len, List.length_append]; simp <;> omega))) (eg_callB (cr_len rfl) (ea_cons (ev_var 2 rfl) ea_nil) G.len boot_len) ev_int) (ew_nil 
  (ew_cons (es_ifT (et_cmp (CmpR.to cm_eqS (by decide +kernel)) (ev_var 0 rfl) ev_str) (ew_one (es_ret (ev_tup (ea_cons (el_slice (ev_var 2 rfl) eo_none (eo_some (ev_neg ev_int))).ev (ea_cons (ev_tup (ea_cons ev_str (ea_cons (ev_var 3 rfl) (ea_cons (ev_ix (ev_var 2 rfl) (ev_neg ev_int) (ix_last _ _)) ea_nil)))) ea_nil))) (congrArg (fun z => Res.dat (PyData.tuple [.list z, emb (.ov A B)])) (by rw [embK_app]; exact cut_init _ _))))))))) (nd := nd)))
  · exact (ew_cons (es_unp 2 3 (ev_var 1 rfl) 
  (ew_cons (es_ifF (et_cmp (CmpR.to cm_lt (decide_eq_false (by have := List.length_pos_iff.mpr hr0; rw [embK_len]; simp <;> omega))) (eg_callB (cr_len rfl) (ea_cons (ev_var 2 rfl) ea_nil) G.len boot_len) ev_int) (ew_nil 
  (ew_cons (es_ifF (et_cmp (CmpR.to cm_eqS (by decide +kernel)) (ev_var 0 rfl) ev_str) (ew_nil 
  (ew_one (es_ret (ev_tup (ea_cons (el_slice (ev_var 2 rfl) (eo_some ev_int) eo_none).ev (ea_cons (ev_tup (ea_cons ev_str (ea_cons (ev_ix (ev_var 2 rfl) ev_int (by exact at_zero _ _)) (ea_cons (ev_var 3 rfl) ea_nil)))) ea_nil))) (congrArg (fun z => Res.dat (PyData.tuple [.list z, emb (.un B A)])) (cut_tail _ _)))))))))) (nd := nd)))
/-! ### used_of -/
abbrev st_used_of : Stmt := top 18
theorem sc_used_of : FnScope ["word", "place", "one", "other", "row", "goal", "stretch", "waited"] ["word", "place", "one", "other"] (defScope st_used_of) := ⟨rfl, rfl, rfl, by decide +kernel, rfl, by decide +kernel, by decide +kernel⟩
def r_used_of : List PyData → Res → Prop := fun ds r => ∃ (u : Nat) (z x : List Kd) (A B g : Kd), z.length ≤ 4 ∧ x.length ≤ 4 ∧
  ((u = 0 ∧ ds = [.str "over used", .int 0, embR z B, embR (A :: x) g] ∧ r = .dat (embR (.ov A B :: (z ++ x)) g)) ∨ (u = 1 ∧ ds = [.str "under used", .int 0, embR z B, embR (A :: x) g] ∧ r = .dat (embR (z ++ .un B A :: x) g)) ∨
    (u = 2 ∧ A = B ∧ (B.ok = true ∧ B.dep ≤ 40) ∧ ds = [.str "cut", .int 0, embR z B, embR (A :: x) g] ∧ r = .dat (embR (z ++ x) g)))
theorem ok_used_of (G : Mg K mg) (C_is_count : Cal P w K mg base 1 "is_count" ["value"] (spR K r_is_count)) (F : Fun K "used_of" "used_of" st_used_of f fd) : FnOk P w K mg base CX0 2 f fd ["word", "place", "one", "other"] (spR K r_used_of) := by
  refine Fun.okR F sc_used_of r_used_of (by rintro _ _ ⟨_, _, _, _, _, _, _, _, ⟨_, rfl, _⟩ | ⟨_, rfl, _⟩ | ⟨_, _, _, rfl, _⟩⟩ <;> rfl) fun cdv A outer s H E hr ds r h => ?_
  have nd := sc_used_of.nd
  obtain ⟨u, z, x, A, B, g, h1, h2, ⟨_, rfl, rfl⟩ | ⟨_, rfl, rfl⟩ | ⟨_, e, hB, rfl, rfl⟩⟩ := h
  · exact (ew_cons (es_unp 4 5 (ev_var 3 rfl) 
  (ew_cons (es_ifF (et_bw (eb_orF (et_not (et_val (eg_call C_is_count (hr.mono (by omega)) (ea_cons (ev_var 1 rfl) ea_nil) ⟨0, rfl, Int.le_refl 0, rfl⟩))) (eb_or1 (et_cmp (CmpR.to cm_ge (decide_eq_false (by rw [embK_len]; simp <;> omega))) (ev_var 1 rfl) (eg_callB (cr_len rfl) (ea_cons (ev_var 4 rfl) ea_nil) G.len boot_len))))) (ew_nil 
  (ew_cons (es_unp 6 7 (ev_var 2 rfl) 
  (ew_cons (es_ifT (et_cmp (CmpR.to cm_eqS (by decide +kernel)) (ev_var 0 rfl) ev_str) (ew_one (es_ret (ev_tup (ea_cons (el_lst (ea_star (el_slice (ev_var 4 rfl) eo_none (eo_some (ev_var 1 rfl))).ev (ea_cons (ev_tup (ea_cons ev_str (ea_cons (ev_ix (ev_var 4 rfl) (ev_var 1 rfl) (by exact at_zero _ _)) (ea_cons (ev_var 7 rfl) ea_nil)))) (ea_star (ev_var 6 rfl) (ea_star (el_slice (ev_var 4 rfl) (eo_some (eg_bin br_add (ev_var 1 rfl) ev_int)) eo_none).ev ea_nil)))) (le_line (by rw [cut_zero, show (0 : Int) + 1 = 1 from rfl, cut_tailK]; simp [embK_len] <;> omega))).ev (ea_cons (ev_var 5 rfl) ea_nil))) (congrArg (fun z => Res.dat (PyData.tuple [.list z, emb g])) (by rw [cut_zero, show (0 : Int) + 1 = 1 from rfl, cut_tailK, List.append_nil, List.nil_append]; show _ = emb (.ov A B) :: embK (z ++ x); rw [embK_app] <;> rfl)))))) (nd := nd)))))) (nd := nd)))
  · exact (ew_cons (es_unp 4 5 (ev_var 3 rfl) 
  (ew_cons (es_ifF (et_bw (eb_orF (et_not (et_val (eg_call C_is_count (hr.mono (by omega)) (ea_cons (ev_var 1 rfl) ea_nil) ⟨0, rfl, Int.le_refl 0, rfl⟩))) (eb_or1 (et_cmp (CmpR.to cm_ge (decide_eq_false (by rw [embK_len]; simp <;> omega))) (ev_var 1 rfl) (eg_callB (cr_len rfl) (ea_cons (ev_var 4 rfl) ea_nil) G.len boot_len))))) (ew_nil 
  (ew_cons (es_unp 6 7 (ev_var 2 rfl) 
  (ew_cons (es_ifF (et_cmp (CmpR.to cm_eqS (by decide +kernel)) (ev_var 0 rfl) ev_str) (ew_nil 
  (ew_cons (es_ifT (et_cmp (CmpR.to cm_eqS (by decide +kernel)) (ev_var 0 rfl) ev_str) (ew_one (es_ret (ev_tup (ea_cons (el_lst (ea_star (el_slice (ev_var 4 rfl) eo_none (eo_some (ev_var 1 rfl))).ev (ea_star (ev_var 6 rfl) (ea_cons (ev_tup (ea_cons ev_str (ea_cons (ev_var 7 rfl) (ea_cons (ev_ix (ev_var 4 rfl) (ev_var 1 rfl) (by exact at_zero _ _)) ea_nil)))) (ea_star (el_slice (ev_var 4 rfl) (eo_some (eg_bin br_add (ev_var 1 rfl) ev_int)) eo_none).ev ea_nil)))) (le_line (by rw [cut_zero, show (0 : Int) + 1 = 1 from rfl, cut_tailK]; simp [embK_len] <;> omega))).ev (ea_cons (ev_var 5 rfl) ea_nil))) (congrArg (fun z => Res.dat (PyData.tuple [.list z, emb g])) (by rw [cut_zero, show (0 : Int) + 1 = 1 from rfl, cut_tailK, List.append_nil, List.nil_append, embK_app] <;> rfl))))))))) (nd := nd)))))) (nd := nd)))
  · subst e
    exact (ew_cons (es_unp 4 5 (ev_var 3 rfl) 
  (ew_cons (es_ifF (et_bw (eb_orF (et_not (et_val (eg_call C_is_count (hr.mono (by omega)) (ea_cons (ev_var 1 rfl) ea_nil) ⟨0, rfl, Int.le_refl 0, rfl⟩))) (eb_or1 (et_cmp (CmpR.to cm_ge (decide_eq_false (by rw [embK_len]; simp <;> omega))) (ev_var 1 rfl) (eg_callB (cr_len rfl) (ea_cons (ev_var 4 rfl) ea_nil) G.len boot_len))))) (ew_nil 
  (ew_cons (es_unp 6 7 (ev_var 2 rfl) 
  (ew_cons (es_ifF (et_cmp (CmpR.to cm_eqS (by decide +kernel)) (ev_var 0 rfl) ev_str) (ew_nil 
  (ew_cons (es_ifF (et_cmp (CmpR.to cm_eqS (by decide +kernel)) (ev_var 0 rfl) ev_str) (ew_nil 
  (ew_one (es_ret (eg_ifT (et_cmp (CmpR.to (cm_eq hr.units (lay_emb hB.1) (lay_emb hB.1) (by rw [dep_emb]; omega)) (by rw [eqv_emb]; exact decide_eq_true rfl)) (ev_ix (ev_var 4 rfl) (ev_var 1 rfl) (by exact at_zero _ _)) (ev_var 7 rfl)) (ev_tup (ea_cons (el_lst (ea_star (el_slice (ev_var 4 rfl) eo_none (eo_some (ev_var 1 rfl))).ev (ea_star (ev_var 6 rfl) (ea_star (el_slice (ev_var 4 rfl) (eo_some (eg_bin br_add (ev_var 1 rfl) ev_int)) eo_none).ev ea_nil))) (le_line (by rw [cut_zero, show (0 : Int) + 1 = 1 from rfl, cut_tailK]; simp [embK_len] <;> omega))).ev (ea_cons (ev_var 5 rfl) ea_nil)))) (congrArg (fun z => Res.dat (PyData.tuple [.list z, emb g])) (by rw [cut_zero, show (0 : Int) + 1 = 1 from rfl, cut_tailK, List.append_nil, List.nil_append, embK_app] <;> rfl)))))))))) (nd := nd)))))) (nd := nd)))
end
end PU
namespace PU
open PySem PySem.Spec PyProof.Rows L2 StX MM

theorem lay2 {s : Str} {x : PyData} (hs : PyData.strOk s = true) (hx : x.canLay0 = true) : (PyData.tuple [.str s, x]).canLay0 = true := by
  show (PyData.canLay0 (.str s) && (x.canLay0 && true)) = true
  rw [hx, show PyData.canLay0 (.str s) = PyData.strOk s from rfl, hs] <;> rfl
theorem lay3i {s : Str} {i : Int} {x : PyData} (hs : PyData.strOk s = true) (hx : x.canLay0 = true) : (PyData.tuple [.str s, .int i, x]).canLay0 = true := lay3 hs rfl hx
theorem lay4i {s : Str} {i : Int} {x y : PyData} (hs : PyData.strOk s = true) (hx : x.canLay0 = true) (hy : y.canLay0 = true) : (PyData.tuple [.str s, .int i, x, y]).canLay0 = true := by
  show (PyData.canLay0 (.str s) && (true && (x.canLay0 && (y.canLay0 && true)))) = true
  rw [hx, hy, show PyData.canLay0 (.str s) = PyData.strOk s from rfl, hs] <;> rfl
theorem lay_embD {D n : Nat} {d : Dv} {r : List Kd} {g : Kd} (h : Tl D n d r g) : (embD d).canLay0 = true := by
  induction h with
  | is h1 h2 => exact lay2 (by decide +kernel) (lay_emb h1)
  | om h1 h2 h3 ih => exact lay2 (by decide +kernel) ih
  | um h1 h2 h3 ih => exact lay2 (by decide +kernel) ih
  | tm h1 h2 h3 h4 i1 i2 => exact lay3 (by decide +kernel) i1 i2
  | ou h1 h2 h3 h4 i1 i2 => exact lay4i (by decide +kernel) i1 i2
  | uu h1 h2 h3 h4 i1 i2 => exact lay4i (by decide +kernel) i1 i2
  | tu h1 h2 ih => exact lay3i (by decide +kernel) ih
  | ct h1 h2 h3 i1 i2 => exact lay4i (by decide +kernel) i1 i2
/-- a tuple that is not empty -/
theorem cm_eqU {X : Cx} {x : PyData} {ds : List PyData} (hu : X.A.units + 64 < cLine) (h : (PyData.tuple (x :: ds)).canLay0 = true) : CmpR X .Eq (.tuple (x :: ds)) (.tuple []) false :=
  CmpR.to (cm_eq hu h rfl (by rw [show (PyData.tuple []).depth = 1 from rfl]; omega)) (by simp only [PyData.eqv, PyData.eqvAll])

section
variable {P : Program} {w : World} {K : PySem.W.Frag} {mg : Str → Option Value} {base : Heap} {f : Addr} {fd : FuncData}

/-! ### told_in -/
abbrev st_told_in : Stmt := top 19
theorem sc_told_in : FnScope ["value", "word", "size", "told", "one", "other", "row", "place"] ["value"] (defScope st_told_in) := ⟨rfl, rfl, rfl, by decide +kernel, rfl, by decide +kernel, by decide +kernel⟩
theorem ix_oneK (A B : Kd) (r : List Kd) : ixD (.list (embK (A :: B :: r))) 1 = some (emb B) := atI_nat (j := 1) rfl
theorem cut_two (A B : Kd) (r : List Kd) : cutD (embK (A :: B :: r)) (some 2) none = embK r := cut_from (embK (A :: B :: r)) 2

def r_told_in (n : Nat) : List PyData → Res → Prop := fun ds r => ∃ (d : Dv) (x : List Kd) (g : Kd), ds = [embD d] ∧ Tl 40 n d x g ∧ r = .dat (embR x g)
theorem ok_told_in (G : Mg K mg) (C_is_kind_in : Cal P w K mg base 42 "is_kind_in" ["value"] (spR K (r_is_kind_in 40))) (C_is_count : Cal P w K mg base 1 "is_count" ["value"] (spR K r_is_count)) (C_made_of : Cal P w K mg base 1 "made_of" ["word", "told"] (spR K r_made_of)) (C_used_of : Cal P w K mg base 2 "used_of" ["word", "place", "one", "other"] (spR K r_used_of)) (F : Fun K "told_in" "told_in" st_told_in f fd) (bF : Binds K fd ["value"] []) (mF : mg "told_in" = some (.ref f)) :
    ∀ n : Nat, FnOk P w K mg base CX0 (n + 44) f fd ["value"] (spR K (r_told_in n)) := by
  intro n
  induction n with
  | zero =>
    refine (none_left fun vs H Q E h => ?_).mono (Nat.zero_le _)
    obtain ⟨_, _, _, _, _, ⟨d, x, g, _, h, _⟩, _⟩ := h
    cases h
  | succ n ih =>
    have C_told_in : Cal P w K mg base (n + 44) "told_in" ["value"] (spR K (r_told_in n)) := cal_of mF F.kp bF ih
    refine Fun.okR F sc_told_in (r_told_in (n + 1)) (by rintro _ _ ⟨_, _, _, rfl, _⟩; rfl) fun cdv A outer s H E hr ds r h => ?_
    have nd := sc_told_in.nd
    obtain ⟨d, x, g, rfl, h, rfl⟩ := h
    have hlay := lay_embD h
    cases h with
    | is hk hd => exact (ew_cons (es_ifF (et_bw (eb_orF (et_not (et_val (G.isi .tuple rfl rfl rfl (ev_var 0 rfl)))) (eb_orF (et_cmp (cm_eqU hr.units hlay) (ev_var 0 rfl) (ev_tup ea_nil)) (eb_or1 (et_not (et_val (G.isi .str rfl rfl rfl (ev_ix (ev_var 0 rfl) ev_int rfl)))))))) (ew_nil 
  (ew_cons (es_par 1 2 (ev_ix (ev_var 0 rfl) ev_int rfl) (eg_callB (cr_len rfl) (ea_cons (ev_var 0 rfl) ea_nil) G.len boot_len) 
  (ew_cons (es_ifT (et_bw (eb_andT (et_cmp (CmpR.to cm_eqS (by decide +kernel)) (ev_var 1 rfl) ev_str) (eb_and1 (et_cmp (CmpR.to cm_eqI rfl) (ev_var 2 rfl) ev_int)))) (ew_one (es_ret (eg_ifT (et_val (eg_call C_is_kind_in (hr.mono (by omega)) (ea_cons (ev_ix (ev_var 0 rfl) ev_int rfl) ea_nil) ⟨_, rfl, hk, hd, rfl⟩)) (ev_tup (ea_cons (el_lst (ea_cons (ev_ix (ev_var 0 rfl) ev_int rfl) ea_nil) (small_len rfl)).ev (ea_cons (ev_ix (ev_var 0 rfl) ev_int rfl) ea_nil)))) rfl)))) (nd := nd))))))
    | om h1 h2 h3 =>
      have gl := h1.good.len
      exact (ew_cons (es_ifF (et_bw (eb_orF (et_not (et_val (G.isi .tuple rfl rfl rfl (ev_var 0 rfl)))) (eb_orF (et_cmp (cm_eqU hr.units hlay) (ev_var 0 rfl) (ev_tup ea_nil)) (eb_or1 (et_not (et_val (G.isi .str rfl rfl rfl (ev_ix (ev_var 0 rfl) ev_int rfl)))))))) (ew_nil 
  (ew_cons (es_par 1 2 (ev_ix (ev_var 0 rfl) ev_int rfl) (eg_callB (cr_len rfl) (ea_cons (ev_var 0 rfl) ea_nil) G.len boot_len) 
  (ew_cons (es_ifF (et_bw (eb_andF (et_cmp (CmpR.to cm_eqS (by decide +kernel)) (ev_var 1 rfl) ev_str))) (ew_nil 
  (ew_cons (es_ifT (et_bw (eb_andT (et_cmp (CmpR.to (cm_inT (l := ["over made", "under made"])) (by decide +kernel)) (ev_var 1 rfl) (G.vONE rfl)) (eb_and1 (et_cmp (CmpR.to cm_eqI rfl) (ev_var 2 rfl) ev_int)))) (ew_cons (es_set 3 (eg_call C_told_in (hr.mono (by omega)) (ea_cons (ev_ix (ev_var 0 rfl) ev_int rfl) ea_nil) ⟨_, _, _, rfl, h1, rfl⟩) 
  (ew_one (es_ret (eg_ifF (et_cmp (CmpR.to cm_isN rfl) (ev_var 3 rfl) ev_non) (eg_call C_made_of (hr.mono (by omega)) (ea_cons (ev_var 1 rfl) (ea_cons (ev_var 3 rfl) ea_nil)) ⟨true, _, _, _, h2, by rw [List.length_append] at gl; omega, .inl ⟨rfl, rfl, rfl⟩⟩)) rfl)) (nd := nd)))))))) (nd := nd))))))
    | um h1 h2 h3 =>
      have gl := h1.good.len
      exact (ew_cons (es_ifF (et_bw (eb_orF (et_not (et_val (G.isi .tuple rfl rfl rfl (ev_var 0 rfl)))) (eb_orF (et_cmp (cm_eqU hr.units hlay) (ev_var 0 rfl) (ev_tup ea_nil)) (eb_or1 (et_not (et_val (G.isi .str rfl rfl rfl (ev_ix (ev_var 0 rfl) ev_int rfl)))))))) (ew_nil 
  (ew_cons (es_par 1 2 (ev_ix (ev_var 0 rfl) ev_int rfl) (eg_callB (cr_len rfl) (ea_cons (ev_var 0 rfl) ea_nil) G.len boot_len) 
  (ew_cons (es_ifF (et_bw (eb_andF (et_cmp (CmpR.to cm_eqS (by decide +kernel)) (ev_var 1 rfl) ev_str))) (ew_nil 
  (ew_cons (es_ifT (et_bw (eb_andT (et_cmp (CmpR.to (cm_inT (l := ["over made", "under made"])) (by decide +kernel)) (ev_var 1 rfl) (G.vONE rfl)) (eb_and1 (et_cmp (CmpR.to cm_eqI rfl) (ev_var 2 rfl) ev_int)))) (ew_cons (es_set 3 (eg_call C_told_in (hr.mono (by omega)) (ea_cons (ev_ix (ev_var 0 rfl) ev_int rfl) ea_nil) ⟨_, _, _, rfl, h1, rfl⟩) 
  (ew_one (es_ret (eg_ifF (et_cmp (CmpR.to cm_isN rfl) (ev_var 3 rfl) ev_non) (eg_call C_made_of (hr.mono (by omega)) (ea_cons (ev_var 1 rfl) (ea_cons (ev_var 3 rfl) ea_nil)) ⟨false, _, _, _, h2, by rw [List.length_cons] at gl; omega, .inr ⟨rfl, rfl, rfl⟩⟩)) rfl)) (nd := nd)))))))) (nd := nd))))))
    | tm h1 h2 h3 h4 => exact (ew_cons (es_ifF (et_bw (eb_orF (et_not (et_val (G.isi .tuple rfl rfl rfl (ev_var 0 rfl)))) (eb_orF (et_cmp (cm_eqU hr.units hlay) (ev_var 0 rfl) (ev_tup ea_nil)) (eb_or1 (et_not (et_val (G.isi .str rfl rfl rfl (ev_ix (ev_var 0 rfl) ev_int rfl)))))))) (ew_nil 
  (ew_cons (es_par 1 2 (ev_ix (ev_var 0 rfl) ev_int rfl) (eg_callB (cr_len rfl) (ea_cons (ev_var 0 rfl) ea_nil) G.len boot_len) 
  (ew_cons (es_ifF (et_bw (eb_andF (et_cmp (CmpR.to cm_eqS (by decide +kernel)) (ev_var 1 rfl) ev_str))) (ew_nil 
  (ew_cons (es_ifF (et_bw (eb_andF (et_cmp (CmpR.to (cm_inT (l := ["over made", "under made"])) (by decide +kernel)) (ev_var 1 rfl) (G.vONE rfl)))) (ew_nil 
  (ew_cons (es_ifT (et_bw (eb_andT (et_cmp (CmpR.to cm_eqS (by decide +kernel)) (ev_var 1 rfl) ev_str) (eb_and1 (et_cmp (CmpR.to cm_eqI rfl) (ev_var 2 rfl) ev_int)))) (ew_cons (es_par 4 5 (eg_call C_told_in (hr.mono (by omega)) (ea_cons (ev_ix (ev_var 0 rfl) ev_int rfl) ea_nil) ⟨_, _, _, rfl, h1, rfl⟩) (eg_call C_told_in (hr.mono (by omega)) (ea_cons (ev_ix (ev_var 0 rfl) ev_int rfl) ea_nil) ⟨_, _, _, rfl, h2, rfl⟩) 
  (ew_one (es_ret (eg_ifF (et_bw (eb_orF (et_cmp (CmpR.to cm_isN rfl) (ev_var 4 rfl) ev_non) (eb_or1 (et_cmp (CmpR.to cm_isN rfl) (ev_var 5 rfl) ev_non)))) (ev_tup (ea_cons (el_lst (ea_star (ev_ix (ev_var 4 rfl) ev_int rfl) (ea_star (ev_ix (ev_var 5 rfl) ev_int rfl) ea_nil)) (le_line (by simp [embK_len] <;> omega))).ev (ea_cons (ev_tup (ea_cons ev_str (ea_cons (ev_ix (ev_var 4 rfl) ev_int rfl) (ea_cons (ev_ix (ev_var 5 rfl) ev_int rfl) ea_nil)))) ea_nil)))) (congrArg (fun z => Res.dat (PyData.tuple [.list z, emb (.th _ _)])) (by rw [List.append_nil, embK_app])))) (nd := nd))))))))))) (nd := nd))))))
    | ou h1 h2 h3 h4 => exact (ew_cons (es_ifF (et_bw (eb_orF (et_not (et_val (G.isi .tuple rfl rfl rfl (ev_var 0 rfl)))) (eb_orF (et_cmp (cm_eqU hr.units hlay) (ev_var 0 rfl) (ev_tup ea_nil)) (eb_or1 (et_not (et_val (G.isi .str rfl rfl rfl (ev_ix (ev_var 0 rfl) ev_int rfl)))))))) (ew_nil 
  (ew_cons (es_par 1 2 (ev_ix (ev_var 0 rfl) ev_int rfl) (eg_callB (cr_len rfl) (ea_cons (ev_var 0 rfl) ea_nil) G.len boot_len) 
  (ew_cons (es_ifF (et_bw (eb_andF (et_cmp (CmpR.to cm_eqS (by decide +kernel)) (ev_var 1 rfl) ev_str))) (ew_nil 
  (ew_cons (es_ifF (et_bw (eb_andF (et_cmp (CmpR.to (cm_inT (l := ["over made", "under made"])) (by decide +kernel)) (ev_var 1 rfl) (G.vONE rfl)))) (ew_nil 
  (ew_cons (es_ifF (et_bw (eb_andF (et_cmp (CmpR.to cm_eqS (by decide +kernel)) (ev_var 1 rfl) ev_str))) (ew_nil 
  (ew_cons (es_ifF (et_bw (eb_andF (et_cmp (CmpR.to cm_eqS (by decide +kernel)) (ev_var 1 rfl) ev_str))) (ew_nil 
  (ew_cons (es_ifT (et_bw (eb_andT (et_bw (eb_orT (et_cmp (CmpR.to (cm_inT (l := ["over used", "under used"])) (by decide +kernel)) (ev_var 1 rfl) (G.vUSED rfl)))) (eb_and1 (et_cmp (CmpR.to cm_eqI rfl) (ev_var 2 rfl) ev_int)))) (ew_cons (es_par 4 5 (eg_call C_told_in (hr.mono (by omega)) (ea_cons (ev_ix (ev_var 0 rfl) ev_int rfl) ea_nil) ⟨_, _, _, rfl, h1, rfl⟩) (eg_call C_told_in (hr.mono (by omega)) (ea_cons (ev_ix (ev_var 0 rfl) ev_int rfl) ea_nil) ⟨_, _, _, rfl, h2, rfl⟩) 
  (ew_one (es_ret (eg_ifF (et_bw (eb_orF (et_cmp (CmpR.to cm_isN rfl) (ev_var 4 rfl) ev_non) (eb_or1 (et_cmp (CmpR.to cm_isN rfl) (ev_var 5 rfl) ev_non)))) (eg_call C_used_of (hr.mono (by omega)) (ea_cons (ev_var 1 rfl) (ea_cons (ev_ix (ev_var 0 rfl) ev_int rfl) (ea_cons (ev_var 4 rfl) (ea_cons (ev_var 5 rfl) ea_nil)))) ⟨0, _, _, _, _, _, by omega, by omega, .inl ⟨rfl, rfl, rfl⟩⟩)) rfl)) (nd := nd))))))))))))))))) (nd := nd))))))
    | uu h1 h2 h3 h4 => exact (ew_cons (es_ifF (et_bw (eb_orF (et_not (et_val (G.isi .tuple rfl rfl rfl (ev_var 0 rfl)))) (eb_orF (et_cmp (cm_eqU hr.units hlay) (ev_var 0 rfl) (ev_tup ea_nil)) (eb_or1 (et_not (et_val (G.isi .str rfl rfl rfl (ev_ix (ev_var 0 rfl) ev_int rfl)))))))) (ew_nil 
  (ew_cons (es_par 1 2 (ev_ix (ev_var 0 rfl) ev_int rfl) (eg_callB (cr_len rfl) (ea_cons (ev_var 0 rfl) ea_nil) G.len boot_len) 
  (ew_cons (es_ifF (et_bw (eb_andF (et_cmp (CmpR.to cm_eqS (by decide +kernel)) (ev_var 1 rfl) ev_str))) (ew_nil 
  (ew_cons (es_ifF (et_bw (eb_andF (et_cmp (CmpR.to (cm_inT (l := ["over made", "under made"])) (by decide +kernel)) (ev_var 1 rfl) (G.vONE rfl)))) (ew_nil 
  (ew_cons (es_ifF (et_bw (eb_andF (et_cmp (CmpR.to cm_eqS (by decide +kernel)) (ev_var 1 rfl) ev_str))) (ew_nil 
  (ew_cons (es_ifF (et_bw (eb_andF (et_cmp (CmpR.to cm_eqS (by decide +kernel)) (ev_var 1 rfl) ev_str))) (ew_nil 
  (ew_cons (es_ifT (et_bw (eb_andT (et_bw (eb_orT (et_cmp (CmpR.to (cm_inT (l := ["over used", "under used"])) (by decide +kernel)) (ev_var 1 rfl) (G.vUSED rfl)))) (eb_and1 (et_cmp (CmpR.to cm_eqI rfl) (ev_var 2 rfl) ev_int)))) (ew_cons (es_par 4 5 (eg_call C_told_in (hr.mono (by omega)) (ea_cons (ev_ix (ev_var 0 rfl) ev_int rfl) ea_nil) ⟨_, _, _, rfl, h1, rfl⟩) (eg_call C_told_in (hr.mono (by omega)) (ea_cons (ev_ix (ev_var 0 rfl) ev_int rfl) ea_nil) ⟨_, _, _, rfl, h2, rfl⟩) 
  (ew_one (es_ret (eg_ifF (et_bw (eb_orF (et_cmp (CmpR.to cm_isN rfl) (ev_var 4 rfl) ev_non) (eb_or1 (et_cmp (CmpR.to cm_isN rfl) (ev_var 5 rfl) ev_non)))) (eg_call C_used_of (hr.mono (by omega)) (ea_cons (ev_var 1 rfl) (ea_cons (ev_ix (ev_var 0 rfl) ev_int rfl) (ea_cons (ev_var 4 rfl) (ea_cons (ev_var 5 rfl) ea_nil)))) ⟨1, _, _, _, _, _, by omega, by omega, .inr (.inl ⟨rfl, rfl, rfl⟩)⟩)) rfl)) (nd := nd))))))))))))))))) (nd := nd))))))
    | tu h2 h3 =>
      have gl := h2.good.len
      rw [List.length_cons, List.length_cons] at gl
      exact (ew_cons (es_ifF (et_bw (eb_orF (et_not (et_val (G.isi .tuple rfl rfl rfl (ev_var 0 rfl)))) (eb_orF (et_cmp (cm_eqU hr.units hlay) (ev_var 0 rfl) (ev_tup ea_nil)) (eb_or1 (et_not (et_val (G.isi .str rfl rfl rfl (ev_ix (ev_var 0 rfl) ev_int rfl)))))))) (ew_nil 
  (ew_cons (es_par 1 2 (ev_ix (ev_var 0 rfl) ev_int rfl) (eg_callB (cr_len rfl) (ea_cons (ev_var 0 rfl) ea_nil) G.len boot_len) 
  (ew_cons (es_ifF (et_bw (eb_andF (et_cmp (CmpR.to cm_eqS (by decide +kernel)) (ev_var 1 rfl) ev_str))) (ew_nil 
  (ew_cons (es_ifF (et_bw (eb_andF (et_cmp (CmpR.to (cm_inT (l := ["over made", "under made"])) (by decide +kernel)) (ev_var 1 rfl) (G.vONE rfl)))) (ew_nil 
  (ew_cons (es_ifF (et_bw (eb_andF (et_cmp (CmpR.to cm_eqS (by decide +kernel)) (ev_var 1 rfl) ev_str))) (ew_nil 
  (ew_cons (es_ifT (et_bw (eb_andT (et_cmp (CmpR.to cm_eqS (by decide +kernel)) (ev_var 1 rfl) ev_str) (eb_and1 (et_cmp (CmpR.to cm_eqI rfl) (ev_var 2 rfl) ev_int)))) (ew_cons (es_set 3 (eg_call C_told_in (hr.mono (by omega)) (ea_cons (ev_ix (ev_var 0 rfl) ev_int rfl) ea_nil) ⟨_, _, _, rfl, h2, rfl⟩) 
  (ew_cons (es_ifF (et_bw (eb_orF (et_cmp (CmpR.to cm_isN rfl) (ev_var 3 rfl) ev_non) (eb_orF (et_not (et_val (eg_call C_is_count (hr.mono (by omega)) (ea_cons (ev_ix (ev_var 0 rfl) ev_int rfl) ea_nil) ⟨0, rfl, Int.le_refl 0, rfl⟩))) (eb_or1 (et_cmp (CmpR.to cm_ge (decide_eq_false (by rw [embK_len]; simp <;> omega))) (eg_bin br_add (ev_ix (ev_var 0 rfl) ev_int rfl) ev_int) (eg_callB (cr_len rfl) (ea_cons (ev_ix (ev_var 3 rfl) ev_int rfl) ea_nil) G.len boot_len)))))) (ew_nil 
  (ew_cons (es_par 6 7 (ev_ix (ev_var 3 rfl) ev_int rfl) (ev_ix (ev_var 0 rfl) ev_int rfl) 
  (ew_one (es_ret (ev_tup (ea_cons (el_lst (ea_star (el_slice (ev_var 6 rfl) eo_none (eo_some (ev_var 7 rfl))).ev (ea_cons (ev_tup (ea_cons ev_str (ea_cons (ev_ix (ev_var 6 rfl) (ev_var 7 rfl) (by exact at_zero _ _)) (ea_cons (ev_ix (ev_var 6 rfl) (eg_bin br_add (ev_var 7 rfl) ev_int) (by exact ix_oneK _ _ _)) ea_nil)))) (ea_star (el_slice (ev_var 6 rfl) (eo_some (eg_bin br_add (ev_var 7 rfl) ev_int)) eo_none).ev ea_nil))) (le_line (by rw [cut_zero, show (0 : Int) + 2 = 2 from rfl, cut_two]; simp [embK_len] <;> omega))).ev (ea_cons (ev_ix (ev_var 3 rfl) ev_int rfl) ea_nil))) (congrArg (fun z => Res.dat (PyData.tuple [.list z, emb g])) (by rw [cut_zero, show (0 : Int) + 2 = 2 from rfl, cut_two, List.append_nil, List.nil_append] <;> rfl)))) (nd := nd)))))) (nd := nd)))))))))))))) (nd := nd))))))
    | ct h1 h2 h3 =>
      have hB := h2.good.rok _ List.mem_cons_self
      exact (ew_cons (es_ifF (et_bw (eb_orF (et_not (et_val (G.isi .tuple rfl rfl rfl (ev_var 0 rfl)))) (eb_orF (et_cmp (cm_eqU hr.units hlay) (ev_var 0 rfl) (ev_tup ea_nil)) (eb_or1 (et_not (et_val (G.isi .str rfl rfl rfl (ev_ix (ev_var 0 rfl) ev_int rfl)))))))) (ew_nil 
  (ew_cons (es_par 1 2 (ev_ix (ev_var 0 rfl) ev_int rfl) (eg_callB (cr_len rfl) (ea_cons (ev_var 0 rfl) ea_nil) G.len boot_len) 
  (ew_cons (es_ifF (et_bw (eb_andF (et_cmp (CmpR.to cm_eqS (by decide +kernel)) (ev_var 1 rfl) ev_str))) (ew_nil 
  (ew_cons (es_ifF (et_bw (eb_andF (et_cmp (CmpR.to (cm_inT (l := ["over made", "under made"])) (by decide +kernel)) (ev_var 1 rfl) (G.vONE rfl)))) (ew_nil 
  (ew_cons (es_ifF (et_bw (eb_andF (et_cmp (CmpR.to cm_eqS (by decide +kernel)) (ev_var 1 rfl) ev_str))) (ew_nil 
  (ew_cons (es_ifF (et_bw (eb_andF (et_cmp (CmpR.to cm_eqS (by decide +kernel)) (ev_var 1 rfl) ev_str))) (ew_nil 
  (ew_cons (es_ifT (et_bw (eb_andT (et_bw (eb_orF (et_cmp (CmpR.to (cm_inT (l := ["over used", "under used"])) (by decide +kernel)) (ev_var 1 rfl) (G.vUSED rfl)) (eb_or1 (et_cmp (CmpR.to cm_eqS (by decide +kernel)) (ev_var 1 rfl) ev_str)))) (eb_and1 (et_cmp (CmpR.to cm_eqI rfl) (ev_var 2 rfl) ev_int)))) (ew_cons (es_par 4 5 (eg_call C_told_in (hr.mono (by omega)) (ea_cons (ev_ix (ev_var 0 rfl) ev_int rfl) ea_nil) ⟨_, _, _, rfl, h1, rfl⟩) (eg_call C_told_in (hr.mono (by omega)) (ea_cons (ev_ix (ev_var 0 rfl) ev_int rfl) ea_nil) ⟨_, _, _, rfl, h2, rfl⟩) 
  (ew_one (es_ret (eg_ifF (et_bw (eb_orF (et_cmp (CmpR.to cm_isN rfl) (ev_var 4 rfl) ev_non) (eb_or1 (et_cmp (CmpR.to cm_isN rfl) (ev_var 5 rfl) ev_non)))) (eg_call C_used_of (hr.mono (by omega)) (ea_cons (ev_var 1 rfl) (ea_cons (ev_ix (ev_var 0 rfl) ev_int rfl) (ea_cons (ev_var 4 rfl) (ea_cons (ev_var 5 rfl) ea_nil)))) ⟨2, _, _, _, _, _, by omega, by omega, .inr (.inr ⟨rfl, rfl, hB, rfl, rfl⟩)⟩)) rfl)) (nd := nd))))))))))))))))) (nd := nd))))))
end
end PU
namespace PU
open PySem PySem.Spec PyProof.Rows L2 StX MM

/-- letters of a type, or of it turned back, put behind others -/
def putS (l : List Lt) (k : Kd) (s : Bool) : List Lt := put l (if s = true then unc k else ivl (unc k))
theorem putS_pl (l : List Lt) (w : Str) (s : Bool) : putS l (.pl w) s = push l (w, s) := by
  have e : ∀ x : Lt, put l [x] = push l x := fun x => by rw [put_cons, put_nil]
  cases s
  · exact e (w, false)
  · exact e (w, true)
theorem putS_len (l : List Lt) (k : Kd) (s : Bool) : (putS l k s).length ≤ l.length + k.sg + 1 := by
  unfold putS
  have h := put_len (if s = true then unc k else ivl (unc k)) l
  have e : (if s = true then unc k else ivl (unc k)).length = k.sg + 1 := by
    cases s
    · show (ivl (unc k)).length = _
      unfold ivl
      rw [List.length_reverse, List.length_map, unc_len]
    · exact unc_len k
  omega
theorem putS_ok {l : List Lt} {k : Kd} {s : Bool} (hl : ∀ x ∈ l, okw x.1 = true) (hk : k.ok = true) : ∀ x ∈ putS l k s, okw x.1 = true := fun x hx => by
  rcases put_mem _ _ _ hx with z | z
  · exact hl x z
  · cases s
    · have z : x ∈ ivl (unc k) := z
      unfold ivl at z
      rw [List.mem_reverse, List.mem_map] at z
      obtain ⟨y, hy, rfl⟩ := z
      exact unc_ok hk y hy
    · exact unc_ok hk x z
theorem putS_th (l : List Lt) (a b : Kd) (s : Bool) : putS l (.th a b) s = if s = true then putS (putS l a true) b true else putS (putS l b false) a false := by
  cases s
  · show put l (ivl (unc a ++ unc b)) = put (put l (ivl (unc b))) (ivl (unc a))
    rw [ivl_append, put_app]
  · show put l (unc a ++ unc b) = put (put l (unc a)) (unc b)
    rw [put_app]
theorem putS_ov (l : List Lt) (a b : Kd) (s : Bool) : putS l (.ov a b) s = if s = true then putS (putS l a true) b false else putS (putS l b true) a false := by
  cases s
  · show put l (ivl (unc a ++ ivl (unc b))) = put (put l (unc b)) (ivl (unc a))
    rw [ivl_append, ivl_ivl, put_app]
  · show put l (unc a ++ ivl (unc b)) = put (put l (unc a)) (ivl (unc b))
    rw [put_app]
theorem putS_un (l : List Lt) (a b : Kd) (s : Bool) : putS l (.un a b) s = if s = true then putS (putS l a false) b true else putS (putS l b false) a true := by
  cases s
  · show put l (ivl (ivl (unc a) ++ unc b)) = put (put l (ivl (unc b))) (unc a)
    rw [ivl_append, ivl_ivl, put_app]
  · show put l (ivl (unc a) ++ unc b) = put (put l (ivl (unc a))) (unc b)
    rw [put_app]
theorem sgn_neg (s : Bool) : -(sgn s) = sgn (!s) := by cases s <;> rfl
theorem lay_embT {x : Lt} (h : okw x.1 = true) : (embT x).canLay0 = true := by
  show (PyData.canLay0 (.str x.1) && (true && true)) = true
  rw [show PyData.canLay0 (.str x.1) = PyData.strOk x.1 from rfl, strOk_w h] <;> rfl
theorem lay_list {α : Type} {f : α → PyData} : ∀ {l : List α}, (∀ x ∈ l, (f x).canLay0 = true) → PyData.canLayAll0 (l.map f) = true
  | [], _ => rfl
  | x :: l, h => by
    show ((f x).canLay0 && PyData.canLayAll0 (l.map f)) = true
    rw [h x List.mem_cons_self, lay_list (fun y hy => h y (List.mem_cons_of_mem _ hy))] <;> rfl
theorem lay_embL {l : List Lt} (h : ∀ x ∈ l, okw x.1 = true) : PyData.canLayAll0 (embL l) = true := lay_list fun x hx => lay_embT (h x hx)
theorem eqv_embT (x y : Lt) : PyData.eqv (embT x) (embT y) = decide (x = y) := by
  obtain ⟨v, s⟩ := x
  obtain ⟨w, t⟩ := y
  show PyData.eqv (.tuple [.str v, .int (sgn s)]) (.tuple [.str w, .int (sgn t)]) = _
  simp only [PyData.eqv, PyData.eqvAll]
  cases s <;> cases t <;> by_cases h : v = w <;> simp [sgn, h]
/-- a list, and the empty one -/
theorem cm_neNil {X : Cx} {ds : List PyData} (hu : X.A.units + 64 < cLine) (h : PyData.canLayAll0 ds = true) : CmpR X .NotEq (.list ds) (.list []) (!ds.isEmpty) :=
  CmpR.to (cm_ne hu h rfl (by rw [show (PyData.list []).depth = 1 from rfl]; omega)) (by cases ds <;> simp [PyData.eqv, PyData.eqvAll])
theorem cm_eqNil {X : Cx} {ds : List PyData} (hu : X.A.units + 64 < cLine) (h : PyData.canLayAll0 ds = true) : CmpR X .Eq (.list ds) (.list []) ds.isEmpty :=
  CmpR.to (cm_eq hu h rfl (by rw [show (PyData.list []).depth = 1 from rfl]; omega)) (by cases ds <;> simp [PyData.eqv, PyData.eqvAll])
theorem dep_embT (x : Lt) : (embT x).depth = 1 := rfl
theorem ix_lastT (r : List Lt) (x : Lt) : ixD (.list (embL (r ++ [x]))) (-1) = some (embT x) := by
  show atI (embL (r ++ [x])) (-1) = _
  unfold embL
  rw [List.map_append]
  exact atI_last _ _
theorem embL_snoc (r : List Lt) (x : Lt) : embL (r ++ [x]) = embL r ++ [embT x] := List.map_append
theorem isE_app {α : Type} (l : List α) (x : α) : (l ++ [x]).isEmpty = false := by cases l <;> rfl

section
variable {P : Program} {w : World} {K : PySem.W.Frag} {mg : Str → Option Value} {base : Heap} {f : Addr} {fd : FuncData}

/-! ### add_letters -/
abbrev st_add_letters : Stmt := top 21
theorem sc_add_letters : FnScope ["kind", "sign", "found", "word", "first", "second", "parts", "part", "way"] ["kind", "sign", "found"] (defScope st_add_letters) := ⟨rfl, rfl, rfl, by decide +kernel, rfl, by decide +kernel, by decide +kernel⟩
def r_add_letters (n : Nat) : List PyData → List PyData → List PyData → Prop := fun ds xs ys => ∃ (k : Kd) (s : Bool) (l : List Lt), ds = [emb k, .int (sgn s)] ∧ k.ok = true ∧ k.dep ≤ n ∧ (∀ x ∈ l, okw x.1 = true) ∧ l.length + k.sg ≤ 1000 ∧ xs = embL l ∧ ys = embL (putS l k s)
theorem ok_add_letters (G : Mg K mg) (F : Fun K "add_letters" "add_letters" st_add_letters f fd) (bF : Binds K fd ["kind", "sign", "found"] []) (mF : mg "add_letters" = some (.ref f)) :
    ∀ n : Nat, FnOk P w K mg base CX0 (n + 1) f fd ["kind", "sign", "found"] (spM K (r_add_letters n)) := by
  have key : ∀ n : Nat, (∀ m, n = m + 1 → Cal P w K mg base n "add_letters" ["kind", "sign", "found"] (spM K (r_add_letters m))) → FnOk P w K mg base CX0 (n + 1) f fd ["kind", "sign", "found"] (spM K (r_add_letters n)) := by
    intro n ih
    refine Fun.okM F sc_add_letters (r_add_letters n) (by rintro _ _ _ ⟨_, _, _, rfl, _⟩; rfl) (by decide) fun cdv A outer s H E hr ds xs ys h hnx => ?_
    have nd := sc_add_letters.nd
    obtain ⟨k, sg, l, rfl, hk, hd, hl, hlen, rfl, rfl⟩ := h
    cases k with
    | pl wd =>
      rw [putS_pl]
      have hu := hr.units
      have hlay := lay_embL hl
      refine ew_cons (es_ifT (et_val (G.isi .str rfl rfl rfl (ev_var 0 rfl))) (ew_cons ?_))
      by_cases hlast : l.getLast? = some (iv (wd, sg))
      · have e := snoc_of hlast
        generalize l.dropLast = m at e
        subst e
        rw [push_pop]
        refine es_ifP (k := true) (et_bw (eb_andT (et_cmp (CmpR.to (cm_neNil hu hlay) (by rw [embL_snoc, isE_app] <;> rfl)) (ev_var 2 rfl) (el_lst ea_nil (small_len rfl)).ev)
          (eb_and1 (et_cmp (CmpR.to (cm_eq hu (lay_embT (x := iv (wd, sg)) hk) (lay_embT (x := iv (wd, sg)) hk) (by rw [dep_embT]; omega)) (by rw [eqv_embT]; exact decide_eq_true rfl)) (ev_ix (ev_var 2 rfl) (ev_neg ev_int) (ix_lastT _ _)) (EV.to (ev_tup (ea_cons (ev_var 0 rfl) (ea_cons (ev_neg (ev_var 1 rfl)) ea_nil))) (by rw [sgn_neg] <;> rfl)))))) (fun _ => ?_) (fun z => by cases z)
        rw [embL_snoc]
        exact ew_one (es_popP 2 rfl (ew_one (es_retN ⟨rfl, rfl⟩)))
      · rw [push_ne hlast]
        have test : ET (cxOf CX0 P w K mg base ["kind", "sign", "found", "word", "first", "second", "parts", "part", "way"] "add_letters" (defScope st_add_letters) f cdv A outer s H E).nox (match (defBody st_add_letters) with | (.If _ (.If c _ _ _ :: _) _ _ :: _) => c | _ => .Constant .none 0 ⟨0, 0, 0, 0⟩) (flatP (startM ["kind", "sign", "found", "word", "first", "second", "parts", "part", "way"] [emb (.pl wd), .int (sgn sg)]) (embL l)) false := by
          cases hc : l.getLast? with
          | none =>
            have e := List.getLast?_eq_none_iff.mp hc
            subst e
            exact (et_bw (eb_andF (et_cmp (CmpR.to (cm_neNil hu hlay) rfl) (ev_var 2 rfl) (el_lst ea_nil (small_len rfl)).ev)))
          | some y =>
            have e := snoc_of hc
            rw [hc] at hlast
            generalize l.dropLast = m at e
            subst e
            have hy := hl y (List.mem_append_right _ List.mem_cons_self)
            exact (et_bw (eb_andT (et_cmp (CmpR.to (cm_neNil hu hlay) (by rw [embL_snoc, isE_app] <;> rfl)) (ev_var 2 rfl) (el_lst ea_nil (small_len rfl)).ev)
              (eb_and1 (et_cmp (CmpR.to (cm_eq hu (lay_embT hy) (lay_embT (x := iv (wd, sg)) hk) (by rw [dep_embT]; omega)) (by rw [eqv_embT]; exact decide_eq_false fun z => hlast (congrArg some z))) (ev_ix (ev_var 2 rfl) (ev_neg ev_int) (ix_lastT _ _)) (EV.to (ev_tup (ea_cons (ev_var 0 rfl) (ea_cons (ev_neg (ev_var 1 rfl)) ea_nil))) (by rw [sgn_neg] <;> rfl))))))
        refine es_ifP (k := false) test (fun z => by cases z) (fun _ => ?_)
        rw [embL_snoc]
        exact ew_one (es_appendP 2 rfl (ev_tup (ea_cons (ev_var 0 rfl) (ea_cons (ev_var 1 rfl) ea_nil))) (ew_one (es_retN ⟨rfl, rfl⟩)) rfl (Nat.lt_of_lt_of_le (by rw [embL_len]; have : (Kd.pl wd).sg = 0 := rfl; omega) (le_line (n := 2000) (by decide))))
    | ov a b =>
      rw [putS_ov]
      have e1 : (Kd.ov a b).sg = a.sg + b.sg + 1 := rfl
      have e2 : (Kd.ov a b).dep = max a.dep b.dep + 1 := rfl
      have hka := (ok2 hk).1
      have hkb := (ok2 hk).2
      cases n with
      | zero => omega
      | succ m =>
      have C_add_letters := ih m rfl
      cases sg with
      | true =>
        refine (ew_cons (es_ifF (et_val (G.isi .str rfl rfl rfl (ev_var 0 rfl))) (ew_nil 
  (ew_cons (es_unp3 3 4 5 (ev_var 0 rfl) 
  (ew_cons (es_set 6 (EG.ev (el_lst (ea_cons (ev_tup (ea_cons (ev_var 4 rfl) (ea_cons (ev_var 1 rfl) ea_nil))) (ea_cons (ev_tup (ea_cons (ev_var 5 rfl) (ea_cons (ev_var 1 rfl) ea_nil))) ea_nil)) (small_len rfl))) 
  (ew_cons (es_ifT (et_cmp (CmpR.to cm_eqS (by decide +kernel)) (ev_var 3 rfl) ev_str) (ew_one (es_set 6 (EG.ev (el_lst (ea_cons (ev_tup (ea_cons (ev_var 4 rfl) (ea_cons (ev_var 1 rfl) ea_nil))) (ea_cons (ev_tup (ea_cons (ev_var 5 rfl) (ea_cons (ev_neg (ev_var 1 rfl)) ea_nil))) ea_nil)) (small_len rfl))) 
  (ew_cons (es_ifF (et_cmp (CmpR.to cm_eqS (by decide +kernel)) (ev_var 3 rfl) ev_str) (ew_nil 
  (ew_one (?_))))) (nd := nd))))) (nd := nd))) (nd := nd))))))
        refine es_for2 (ds := [.tuple [emb a, .int (sgn true)], .tuple [emb b, .int (sgn false)]]) 7 8 (fun m δ' n' => ∃ x y : Slot, x.isOwn = false ∧ y.isOwn = false ∧ δ' = [.dat (emb (Kd.ov a b)), .dat (.int (sgn true)), .purse, .dat (.str "over"), .dat (emb a), .dat (emb b), .dat (.list [.tuple [emb a, .int (sgn true)], .tuple [emb b, .int (sgn false)]]), x, y] ∧
          n' = .lst (embL (match m with | 0 => l | 1 => putS l a true | _ => putS (putS l a true) b false)))
          (ei_list (eg_ifT (et_cmp (CmpR.to cm_eqI rfl) (ev_var 1 rfl) ev_int) (ev_var 6 rfl))) ⟨.unk, .unk, rfl, rfl, rfl, rfl⟩ (fun m d δ' n' hdm hI => ?_) (fun δ' n' hI => ?_) nd
        · obtain ⟨x, y, hx, hy, rfl, rfl⟩ := hI
          have own : ownFree [.dat (emb (Kd.ov a b)), .dat (.int (sgn true)), .purse, .dat (.str "over"), .dat (emb a), .dat (emb b), .dat (.list [.tuple [emb a, .int (sgn true)], .tuple [emb b, .int (sgn false)]]), x, y] = true := by
            show (true && (true && (true && (true && (true && (true && (true && ((!x.isOwn) && ((!y.isOwn) && true))))))))) = true
            rw [hx, hy] <;> rfl
          match m, hdm with
          | 0, hdm =>
            cases hdm
            exact ⟨_, _, rfl, safe2_dat own, ew_one (es_callP 2 C_add_letters (hr.mono (by omega)) rfl (ev_var 7 rfl) (ev_var 8 rfl) ⟨a, true, l, rfl, hka, by omega, hl, by omega, rfl, rfl⟩ (nl_embL _) ⟨_, _, rfl, rfl, rfl, rfl⟩)⟩
          | 1, hdm =>
            cases hdm
            exact ⟨_, _, rfl, safe2_dat own, ew_one (es_callP 2 C_add_letters (hr.mono (by omega)) rfl (ev_var 7 rfl) (ev_var 8 rfl) ⟨b, false, putS l a true, rfl, hkb, by omega, putS_ok hl hka, by have := putS_len l a true; omega, rfl, rfl⟩ (nl_embL _) ⟨_, _, rfl, rfl, rfl, rfl⟩)⟩
          | m + 2, hdm => cases hdm
        · obtain ⟨x, y, hx, hy, rfl, rfl⟩ := hI
          rfl
      | false =>
        refine (ew_cons (es_ifF (et_val (G.isi .str rfl rfl rfl (ev_var 0 rfl))) (ew_nil 
  (ew_cons (es_unp3 3 4 5 (ev_var 0 rfl) 
  (ew_cons (es_set 6 (EG.ev (el_lst (ea_cons (ev_tup (ea_cons (ev_var 4 rfl) (ea_cons (ev_var 1 rfl) ea_nil))) (ea_cons (ev_tup (ea_cons (ev_var 5 rfl) (ea_cons (ev_var 1 rfl) ea_nil))) ea_nil)) (small_len rfl))) 
  (ew_cons (es_ifT (et_cmp (CmpR.to cm_eqS (by decide +kernel)) (ev_var 3 rfl) ev_str) (ew_one (es_set 6 (EG.ev (el_lst (ea_cons (ev_tup (ea_cons (ev_var 4 rfl) (ea_cons (ev_var 1 rfl) ea_nil))) (ea_cons (ev_tup (ea_cons (ev_var 5 rfl) (ea_cons (ev_neg (ev_var 1 rfl)) ea_nil))) ea_nil)) (small_len rfl))) 
  (ew_cons (es_ifF (et_cmp (CmpR.to cm_eqS (by decide +kernel)) (ev_var 3 rfl) ev_str) (ew_nil 
  (ew_one (?_))))) (nd := nd))))) (nd := nd))) (nd := nd))))))
        refine es_for2 (ds := [.tuple [emb b, .int (sgn true)], .tuple [emb a, .int (sgn false)]]) 7 8 (fun m δ' n' => ∃ x y : Slot, x.isOwn = false ∧ y.isOwn = false ∧ δ' = [.dat (emb (Kd.ov a b)), .dat (.int (sgn false)), .purse, .dat (.str "over"), .dat (emb a), .dat (emb b), .dat (.list [.tuple [emb a, .int (sgn false)], .tuple [emb b, .int (sgn true)]]), x, y] ∧
          n' = .lst (embL (match m with | 0 => l | 1 => putS l b true | _ => putS (putS l b true) a false)))
          (ei_list (EG.ev (eg_ifF (et_cmp (CmpR.to cm_eqI rfl) (ev_var 1 rfl) ev_int) (el_rev (ev_var 6 rfl))))) ⟨.unk, .unk, rfl, rfl, rfl, rfl⟩ (fun m d δ' n' hdm hI => ?_) (fun δ' n' hI => ?_) nd
        · obtain ⟨x, y, hx, hy, rfl, rfl⟩ := hI
          have own : ownFree [.dat (emb (Kd.ov a b)), .dat (.int (sgn false)), .purse, .dat (.str "over"), .dat (emb a), .dat (emb b), .dat (.list [.tuple [emb a, .int (sgn false)], .tuple [emb b, .int (sgn true)]]), x, y] = true := by
            show (true && (true && (true && (true && (true && (true && (true && ((!x.isOwn) && ((!y.isOwn) && true))))))))) = true
            rw [hx, hy] <;> rfl
          match m, hdm with
          | 0, hdm =>
            cases hdm
            exact ⟨_, _, rfl, safe2_dat own, ew_one (es_callP 2 C_add_letters (hr.mono (by omega)) rfl (ev_var 7 rfl) (ev_var 8 rfl) ⟨b, true, l, rfl, hkb, by omega, hl, by omega, rfl, rfl⟩ (nl_embL _) ⟨_, _, rfl, rfl, rfl, rfl⟩)⟩
          | 1, hdm =>
            cases hdm
            exact ⟨_, _, rfl, safe2_dat own, ew_one (es_callP 2 C_add_letters (hr.mono (by omega)) rfl (ev_var 7 rfl) (ev_var 8 rfl) ⟨a, false, putS l b true, rfl, hka, by omega, putS_ok hl hkb, by have := putS_len l b true; omega, rfl, rfl⟩ (nl_embL _) ⟨_, _, rfl, rfl, rfl, rfl⟩)⟩
          | m + 2, hdm => cases hdm
        · obtain ⟨x, y, hx, hy, rfl, rfl⟩ := hI
          rfl
    | un a b =>
      rw [putS_un]
      have e1 : (Kd.un a b).sg = a.sg + b.sg + 1 := rfl
      have e2 : (Kd.un a b).dep = max a.dep b.dep + 1 := rfl
      have hka := (ok2 hk).1
      have hkb := (ok2 hk).2
      cases n with
      | zero => omega
      | succ m =>
      have C_add_letters := ih m rfl
      cases sg with
      | true =>
        refine (ew_cons (es_ifF (et_val (G.isi .str rfl rfl rfl (ev_var 0 rfl))) (ew_nil 
  (ew_cons (es_unp3 3 4 5 (ev_var 0 rfl) 
  (ew_cons (es_set 6 (EG.ev (el_lst (ea_cons (ev_tup (ea_cons (ev_var 4 rfl) (ea_cons (ev_var 1 rfl) ea_nil))) (ea_cons (ev_tup (ea_cons (ev_var 5 rfl) (ea_cons (ev_var 1 rfl) ea_nil))) ea_nil)) (small_len rfl))) 
  (ew_cons (es_ifF (et_cmp (CmpR.to cm_eqS (by decide +kernel)) (ev_var 3 rfl) ev_str) (ew_nil 
  (ew_cons (es_ifT (et_cmp (CmpR.to cm_eqS (by decide +kernel)) (ev_var 3 rfl) ev_str) (ew_one (es_set 6 (EG.ev (el_lst (ea_cons (ev_tup (ea_cons (ev_var 4 rfl) (ea_cons (ev_neg (ev_var 1 rfl)) ea_nil))) (ea_cons (ev_tup (ea_cons (ev_var 5 rfl) (ea_cons (ev_var 1 rfl) ea_nil))) ea_nil)) (small_len rfl))) 
  (ew_one (?_)) (nd := nd)))))))) (nd := nd))) (nd := nd))))))
        refine es_for2 (ds := [.tuple [emb a, .int (sgn false)], .tuple [emb b, .int (sgn true)]]) 7 8 (fun m δ' n' => ∃ x y : Slot, x.isOwn = false ∧ y.isOwn = false ∧ δ' = [.dat (emb (Kd.un a b)), .dat (.int (sgn true)), .purse, .dat (.str "under"), .dat (emb a), .dat (emb b), .dat (.list [.tuple [emb a, .int (sgn false)], .tuple [emb b, .int (sgn true)]]), x, y] ∧
          n' = .lst (embL (match m with | 0 => l | 1 => putS l a false | _ => putS (putS l a false) b true)))
          (ei_list (eg_ifT (et_cmp (CmpR.to cm_eqI rfl) (ev_var 1 rfl) ev_int) (ev_var 6 rfl))) ⟨.unk, .unk, rfl, rfl, rfl, rfl⟩ (fun m d δ' n' hdm hI => ?_) (fun δ' n' hI => ?_) nd
        · obtain ⟨x, y, hx, hy, rfl, rfl⟩ := hI
          have own : ownFree [.dat (emb (Kd.un a b)), .dat (.int (sgn true)), .purse, .dat (.str "under"), .dat (emb a), .dat (emb b), .dat (.list [.tuple [emb a, .int (sgn false)], .tuple [emb b, .int (sgn true)]]), x, y] = true := by
            show (true && (true && (true && (true && (true && (true && (true && ((!x.isOwn) && ((!y.isOwn) && true))))))))) = true
            rw [hx, hy] <;> rfl
          match m, hdm with
          | 0, hdm =>
            cases hdm
            exact ⟨_, _, rfl, safe2_dat own, ew_one (es_callP 2 C_add_letters (hr.mono (by omega)) rfl (ev_var 7 rfl) (ev_var 8 rfl) ⟨a, false, l, rfl, hka, by omega, hl, by omega, rfl, rfl⟩ (nl_embL _) ⟨_, _, rfl, rfl, rfl, rfl⟩)⟩
          | 1, hdm =>
            cases hdm
            exact ⟨_, _, rfl, safe2_dat own, ew_one (es_callP 2 C_add_letters (hr.mono (by omega)) rfl (ev_var 7 rfl) (ev_var 8 rfl) ⟨b, true, putS l a false, rfl, hkb, by omega, putS_ok hl hka, by have := putS_len l a false; omega, rfl, rfl⟩ (nl_embL _) ⟨_, _, rfl, rfl, rfl, rfl⟩)⟩
          | m + 2, hdm => cases hdm
        · obtain ⟨x, y, hx, hy, rfl, rfl⟩ := hI
          rfl
      | false =>
        refine (ew_cons (es_ifF (et_val (G.isi .str rfl rfl rfl (ev_var 0 rfl))) (ew_nil 
  (ew_cons (es_unp3 3 4 5 (ev_var 0 rfl) 
  (ew_cons (es_set 6 (EG.ev (el_lst (ea_cons (ev_tup (ea_cons (ev_var 4 rfl) (ea_cons (ev_var 1 rfl) ea_nil))) (ea_cons (ev_tup (ea_cons (ev_var 5 rfl) (ea_cons (ev_var 1 rfl) ea_nil))) ea_nil)) (small_len rfl))) 
  (ew_cons (es_ifF (et_cmp (CmpR.to cm_eqS (by decide +kernel)) (ev_var 3 rfl) ev_str) (ew_nil 
  (ew_cons (es_ifT (et_cmp (CmpR.to cm_eqS (by decide +kernel)) (ev_var 3 rfl) ev_str) (ew_one (es_set 6 (EG.ev (el_lst (ea_cons (ev_tup (ea_cons (ev_var 4 rfl) (ea_cons (ev_neg (ev_var 1 rfl)) ea_nil))) (ea_cons (ev_tup (ea_cons (ev_var 5 rfl) (ea_cons (ev_var 1 rfl) ea_nil))) ea_nil)) (small_len rfl))) 
  (ew_one (?_)) (nd := nd)))))))) (nd := nd))) (nd := nd))))))
        refine es_for2 (ds := [.tuple [emb b, .int (sgn false)], .tuple [emb a, .int (sgn true)]]) 7 8 (fun m δ' n' => ∃ x y : Slot, x.isOwn = false ∧ y.isOwn = false ∧ δ' = [.dat (emb (Kd.un a b)), .dat (.int (sgn false)), .purse, .dat (.str "under"), .dat (emb a), .dat (emb b), .dat (.list [.tuple [emb a, .int (sgn true)], .tuple [emb b, .int (sgn false)]]), x, y] ∧
          n' = .lst (embL (match m with | 0 => l | 1 => putS l b false | _ => putS (putS l b false) a true)))
          (ei_list (EG.ev (eg_ifF (et_cmp (CmpR.to cm_eqI rfl) (ev_var 1 rfl) ev_int) (el_rev (ev_var 6 rfl))))) ⟨.unk, .unk, rfl, rfl, rfl, rfl⟩ (fun m d δ' n' hdm hI => ?_) (fun δ' n' hI => ?_) nd
        · obtain ⟨x, y, hx, hy, rfl, rfl⟩ := hI
          have own : ownFree [.dat (emb (Kd.un a b)), .dat (.int (sgn false)), .purse, .dat (.str "under"), .dat (emb a), .dat (emb b), .dat (.list [.tuple [emb a, .int (sgn true)], .tuple [emb b, .int (sgn false)]]), x, y] = true := by
            show (true && (true && (true && (true && (true && (true && (true && ((!x.isOwn) && ((!y.isOwn) && true))))))))) = true
            rw [hx, hy] <;> rfl
          match m, hdm with
          | 0, hdm =>
            cases hdm
            exact ⟨_, _, rfl, safe2_dat own, ew_one (es_callP 2 C_add_letters (hr.mono (by omega)) rfl (ev_var 7 rfl) (ev_var 8 rfl) ⟨b, false, l, rfl, hkb, by omega, hl, by omega, rfl, rfl⟩ (nl_embL _) ⟨_, _, rfl, rfl, rfl, rfl⟩)⟩
          | 1, hdm =>
            cases hdm
            exact ⟨_, _, rfl, safe2_dat own, ew_one (es_callP 2 C_add_letters (hr.mono (by omega)) rfl (ev_var 7 rfl) (ev_var 8 rfl) ⟨a, true, putS l b false, rfl, hka, by omega, putS_ok hl hkb, by have := putS_len l b false; omega, rfl, rfl⟩ (nl_embL _) ⟨_, _, rfl, rfl, rfl, rfl⟩)⟩
          | m + 2, hdm => cases hdm
        · obtain ⟨x, y, hx, hy, rfl, rfl⟩ := hI
          rfl
    | th a b =>
      rw [putS_th]
      have e1 : (Kd.th a b).sg = a.sg + b.sg + 1 := rfl
      have e2 : (Kd.th a b).dep = max a.dep b.dep + 1 := rfl
      have hka := (ok2 hk).1
      have hkb := (ok2 hk).2
      cases n with
      | zero => omega
      | succ m =>
      have C_add_letters := ih m rfl
      cases sg with
      | true =>
        refine (ew_cons (es_ifF (et_val (G.isi .str rfl rfl rfl (ev_var 0 rfl))) (ew_nil 
  (ew_cons (es_unp3 3 4 5 (ev_var 0 rfl) 
  (ew_cons (es_set 6 (EG.ev (el_lst (ea_cons (ev_tup (ea_cons (ev_var 4 rfl) (ea_cons (ev_var 1 rfl) ea_nil))) (ea_cons (ev_tup (ea_cons (ev_var 5 rfl) (ea_cons (ev_var 1 rfl) ea_nil))) ea_nil)) (small_len rfl))) 
  (ew_cons (es_ifF (et_cmp (CmpR.to cm_eqS (by decide +kernel)) (ev_var 3 rfl) ev_str) (ew_nil 
  (ew_cons (es_ifF (et_cmp (CmpR.to cm_eqS (by decide +kernel)) (ev_var 3 rfl) ev_str) (ew_nil 
  (ew_one (?_)))))))) (nd := nd))) (nd := nd))))))
        refine es_for2 (ds := [.tuple [emb a, .int (sgn true)], .tuple [emb b, .int (sgn true)]]) 7 8 (fun m δ' n' => ∃ x y : Slot, x.isOwn = false ∧ y.isOwn = false ∧ δ' = [.dat (emb (Kd.th a b)), .dat (.int (sgn true)), .purse, .dat (.str "then"), .dat (emb a), .dat (emb b), .dat (.list [.tuple [emb a, .int (sgn true)], .tuple [emb b, .int (sgn true)]]), x, y] ∧
          n' = .lst (embL (match m with | 0 => l | 1 => putS l a true | _ => putS (putS l a true) b true)))
          (ei_list (eg_ifT (et_cmp (CmpR.to cm_eqI rfl) (ev_var 1 rfl) ev_int) (ev_var 6 rfl))) ⟨.unk, .unk, rfl, rfl, rfl, rfl⟩ (fun m d δ' n' hdm hI => ?_) (fun δ' n' hI => ?_) nd
        · obtain ⟨x, y, hx, hy, rfl, rfl⟩ := hI
          have own : ownFree [.dat (emb (Kd.th a b)), .dat (.int (sgn true)), .purse, .dat (.str "then"), .dat (emb a), .dat (emb b), .dat (.list [.tuple [emb a, .int (sgn true)], .tuple [emb b, .int (sgn true)]]), x, y] = true := by
            show (true && (true && (true && (true && (true && (true && (true && ((!x.isOwn) && ((!y.isOwn) && true))))))))) = true
            rw [hx, hy] <;> rfl
          match m, hdm with
          | 0, hdm =>
            cases hdm
            exact ⟨_, _, rfl, safe2_dat own, ew_one (es_callP 2 C_add_letters (hr.mono (by omega)) rfl (ev_var 7 rfl) (ev_var 8 rfl) ⟨a, true, l, rfl, hka, by omega, hl, by omega, rfl, rfl⟩ (nl_embL _) ⟨_, _, rfl, rfl, rfl, rfl⟩)⟩
          | 1, hdm =>
            cases hdm
            exact ⟨_, _, rfl, safe2_dat own, ew_one (es_callP 2 C_add_letters (hr.mono (by omega)) rfl (ev_var 7 rfl) (ev_var 8 rfl) ⟨b, true, putS l a true, rfl, hkb, by omega, putS_ok hl hka, by have := putS_len l a true; omega, rfl, rfl⟩ (nl_embL _) ⟨_, _, rfl, rfl, rfl, rfl⟩)⟩
          | m + 2, hdm => cases hdm
        · obtain ⟨x, y, hx, hy, rfl, rfl⟩ := hI
          rfl
      | false =>
        refine (ew_cons (es_ifF (et_val (G.isi .str rfl rfl rfl (ev_var 0 rfl))) (ew_nil 
  (ew_cons (es_unp3 3 4 5 (ev_var 0 rfl) 
  (ew_cons (es_set 6 (EG.ev (el_lst (ea_cons (ev_tup (ea_cons (ev_var 4 rfl) (ea_cons (ev_var 1 rfl) ea_nil))) (ea_cons (ev_tup (ea_cons (ev_var 5 rfl) (ea_cons (ev_var 1 rfl) ea_nil))) ea_nil)) (small_len rfl))) 
  (ew_cons (es_ifF (et_cmp (CmpR.to cm_eqS (by decide +kernel)) (ev_var 3 rfl) ev_str) (ew_nil 
  (ew_cons (es_ifF (et_cmp (CmpR.to cm_eqS (by decide +kernel)) (ev_var 3 rfl) ev_str) (ew_nil 
  (ew_one (?_)))))))) (nd := nd))) (nd := nd))))))
        refine es_for2 (ds := [.tuple [emb b, .int (sgn false)], .tuple [emb a, .int (sgn false)]]) 7 8 (fun m δ' n' => ∃ x y : Slot, x.isOwn = false ∧ y.isOwn = false ∧ δ' = [.dat (emb (Kd.th a b)), .dat (.int (sgn false)), .purse, .dat (.str "then"), .dat (emb a), .dat (emb b), .dat (.list [.tuple [emb a, .int (sgn false)], .tuple [emb b, .int (sgn false)]]), x, y] ∧
          n' = .lst (embL (match m with | 0 => l | 1 => putS l b false | _ => putS (putS l b false) a false)))
          (ei_list (EG.ev (eg_ifF (et_cmp (CmpR.to cm_eqI rfl) (ev_var 1 rfl) ev_int) (el_rev (ev_var 6 rfl))))) ⟨.unk, .unk, rfl, rfl, rfl, rfl⟩ (fun m d δ' n' hdm hI => ?_) (fun δ' n' hI => ?_) nd
        · obtain ⟨x, y, hx, hy, rfl, rfl⟩ := hI
          have own : ownFree [.dat (emb (Kd.th a b)), .dat (.int (sgn false)), .purse, .dat (.str "then"), .dat (emb a), .dat (emb b), .dat (.list [.tuple [emb a, .int (sgn false)], .tuple [emb b, .int (sgn false)]]), x, y] = true := by
            show (true && (true && (true && (true && (true && (true && (true && ((!x.isOwn) && ((!y.isOwn) && true))))))))) = true
            rw [hx, hy] <;> rfl
          match m, hdm with
          | 0, hdm =>
            cases hdm
            exact ⟨_, _, rfl, safe2_dat own, ew_one (es_callP 2 C_add_letters (hr.mono (by omega)) rfl (ev_var 7 rfl) (ev_var 8 rfl) ⟨b, false, l, rfl, hkb, by omega, hl, by omega, rfl, rfl⟩ (nl_embL _) ⟨_, _, rfl, rfl, rfl, rfl⟩)⟩
          | 1, hdm =>
            cases hdm
            exact ⟨_, _, rfl, safe2_dat own, ew_one (es_callP 2 C_add_letters (hr.mono (by omega)) rfl (ev_var 7 rfl) (ev_var 8 rfl) ⟨a, false, putS l b false, rfl, hka, by omega, putS_ok hl hkb, by have := putS_len l b false; omega, rfl, rfl⟩ (nl_embL _) ⟨_, _, rfl, rfl, rfl, rfl⟩)⟩
          | m + 2, hdm => cases hdm
        · obtain ⟨x, y, hx, hy, rfl, rfl⟩ := hI
          rfl
  intro n
  induction n with
  | zero => exact key 0 fun m e => by cases e
  | succ n ih => exact key (n + 1) fun m e => by cases e; exact cal_of mF F.kp bF ih
/-! ### letters_in -/
abbrev st_letters_in : Stmt := top 22
theorem sc_letters_in : FnScope ["kind", "found"] ["kind"] (defScope st_letters_in) := ⟨rfl, rfl, rfl, by decide +kernel, rfl, by decide +kernel, by decide +kernel⟩
def r_letters_in : List PyData → Res → Prop := fun ds r => ∃ k : Kd, ds = [emb k] ∧ k.ok = true ∧ k.dep ≤ 40 ∧ k.sg ≤ 1000 ∧ r = .fresh (embL (lets k))
theorem ok_letters_in (G : Mg K mg) (C_add_letters : Cal P w K mg base 41 "add_letters" ["kind", "sign", "found"] (spM K (r_add_letters 40))) (F : Fun K "letters_in" "letters_in" st_letters_in f fd) : FnOk P w K mg base CX0 42 f fd ["kind"] (spR K r_letters_in) := by
  refine Fun.okR F sc_letters_in r_letters_in (by rintro _ _ ⟨_, rfl, _⟩; rfl) fun cdv A outer s H E hr ds r h => ?_
  have nd := sc_letters_in.nd
  obtain ⟨k, rfl, hk, hd, hs, rfl⟩ := h
  exact (ew_cons (es_set 1 (el_lst ea_nil (small_len rfl)) (ew_cons (es_callO (ys := embL (lets k)) 1 C_add_letters (hr.mono (by omega)) rfl (ev_var 0 rfl) ev_int ⟨k, true, [], rfl, hk, hd, (fun _ h => nomatch h), by simpa using hs, rfl, rfl⟩ rfl (nl_embL _) (ew_one (es_retOwn 1 rfl rfl)))) (nd := nd)))
end
end PU
namespace PU
open PySem PySem.Spec PyProof.Rows L2 StX MM

/-- not an own list -/
def no1 (s : Slot) : Prop := s.isOwn = false
theorem take_snoc {α : Type} {l : List α} {m : Nat} {x : α} (h : l[m]? = some x) : l.take (m + 1) = l.take m ++ [x] := by rw [List.take_add_one, h] <;> rfl
theorem embC_app (a b : Chain) : embC (a ++ b) = embC a ++ embC b := List.map_append
theorem embL_nil : embL [] = [] := rfl

section
variable {P : Program} {w : World} {K : PySem.W.Frag} {mg : Str → Option Value} {base : Heap} {f : Addr} {fd : FuncData}

/-! ### put_behind -/
abbrev st_put_behind : Stmt := top 24
theorem sc_put_behind : FnScope ["one", "other", "found", "word", "sign"] ["one", "other"] (defScope st_put_behind) := ⟨rfl, rfl, rfl, by decide +kernel, rfl, by decide +kernel, by decide +kernel⟩
def r_put_behind : List PyData → Res → Prop := fun ds r => ∃ (l t : List Lt), ds = [.list (embL l), .list (embL t)] ∧ (∀ x ∈ l, okw x.1 = true) ∧ (∀ x ∈ t, okw x.1 = true) ∧ l.length + t.length ≤ 1000 ∧ r = .fresh (embL (put l t))
theorem ok_put_behind (G : Mg K mg) (F : Fun K "put_behind" "put_behind" st_put_behind f fd) : FnOk P w K mg base CX0 1 f fd ["one", "other"] (spR K r_put_behind) := by
  refine Fun.okR F sc_put_behind r_put_behind (by rintro _ _ ⟨_, _, rfl, _⟩; rfl) fun cdv A outer s H E hr ds r h => ?_
  have nd := sc_put_behind.nd
  obtain ⟨l, t, rfl, hl, ht, hlen, rfl⟩ := h
  have hu := hr.units
  refine ew_cons (es_set 2 (eg_callTy cr_listL (ea_cons (ev_var 0 rfl) ea_nil) G.list rfl) (ew_cons ?_) (nd := nd))
  refine es_for2 (ds := embL t) 3 4 (fun m δ' n' => ∃ x y : Slot, δ' = [.dat (.list (embL l)), .dat (.list (embL t)), .own (embL (put l (t.take m))), x, y] ∧ n' = .none ∧ no1 x ∧ no1 y) (ei_list (ev_var 1 rfl)) ⟨.unk, .unk, by rw [List.take_zero, put_nil] <;> rfl, rfl, rfl, rfl⟩ (fun m d δ' n' hdm hI => ?_) (fun δ' n' hI => ?_) nd
  · obtain ⟨x, y, rfl, rfl, hx, hy⟩ := hI
    obtain ⟨z, hz, hzm, rfl⟩ := map_get hdm
    refine ⟨_, _, rfl, .inr ⟨rfl, rfl⟩, ew_one ?_⟩
    have hcur : ∀ x ∈ put l (t.take m), okw x.1 = true := fun x hx => (put_mem _ _ _ hx).elim (hl x) fun h => ht x (List.mem_of_mem_take h)
    have hcl : (put l (t.take m)).length ≤ 1000 := by
      have := put_len (t.take m) l
      have := List.length_take_le m t
      have := List.length_take_le' m t
      omega
    have hokz := ht z hzm
    rw [take_snoc hz, put_snoc]
    generalize put l (t.take m) = cur at hcur hcl
    have hlay := lay_embL hcur
    by_cases hlast : cur.getLast? = some (iv z)
    · have e := snoc_of hlast
      generalize cur.dropLast = c' at e
      subst e
      rw [push_pop]
      refine es_if (k := true) (et_bw (eb_andT (et_cmp (CmpR.to (cm_neNil hu hlay) (by rw [embL_snoc, isE_app] <;> rfl)) (ev_var 2 rfl) (EG.ev (el_lst ea_nil (small_len rfl))))
          (eb_and1 (et_cmp (CmpR.to (cm_eq hu (lay_embT (x := iv z) hokz) (lay_embT (x := iv z) hokz) (by rw [dep_embT]; omega)) (by rw [eqv_embT]; exact decide_eq_true rfl)) (ev_ix (ev_var 2 rfl) (ev_neg ev_int) (ix_lastT _ _)) (EV.to (ev_tup (ea_cons (ev_var 3 rfl) (ea_cons (ev_neg (ev_var 4 rfl)) ea_nil))) (by rw [sgn_neg] <;> rfl)))))) (fun _ => ?_) (fun z => by cases z)
      rw [embL_snoc]
      exact ew_one (es_pop 2 rfl ⟨_, _, rfl, rfl, rfl, rfl⟩)
    · rw [push_ne hlast]
      refine es_if (k := false) ?_ (fun z => by cases z) (fun _ => ?_)
      · cases hc : cur.getLast? with
        | none =>
          have e := List.getLast?_eq_none_iff.mp hc
          subst e
          exact (et_bw (eb_andF (et_cmp (CmpR.to (cm_neNil hu hlay) rfl) (ev_var 2 rfl) (EG.ev (el_lst ea_nil (small_len rfl))))))
        | some y =>
          have e := snoc_of hc
          rw [hc] at hlast
          generalize cur.dropLast = c' at e
          subst e
          have hy := hcur y (List.mem_append_right _ List.mem_cons_self)
          exact (et_bw (eb_andT (et_cmp (CmpR.to (cm_neNil hu hlay) (by rw [embL_snoc, isE_app] <;> rfl)) (ev_var 2 rfl) (EG.ev (el_lst ea_nil (small_len rfl))))
              (eb_and1 (et_cmp (CmpR.to (cm_eq hu (lay_embT hy) (lay_embT (x := iv z) hokz) (by rw [dep_embT]; omega)) (by rw [eqv_embT]; exact decide_eq_false fun w => hlast (congrArg some w))) (ev_ix (ev_var 2 rfl) (ev_neg ev_int) (ix_lastT _ _)) (EV.to (ev_tup (ea_cons (ev_var 3 rfl) (ea_cons (ev_neg (ev_var 4 rfl)) ea_nil))) (by rw [sgn_neg] <;> rfl))))))
      · rw [embL_snoc]
        exact ew_one (es_append 2 rfl (ev_tup (ea_cons (ev_var 3 rfl) (ea_cons (ev_var 4 rfl) ea_nil))) ⟨_, _, rfl, rfl, rfl, rfl⟩ rfl (Nat.lt_of_lt_of_le (by rw [embL_len]; omega) (le_line (n := 2000) (by decide))))
  · obtain ⟨x, y, rfl, rfl, hx, hy⟩ := hI
    rw [show (embL t).length = t.length from embL_len t, List.take_length]
    exact ew_one (es_retOwn 2 rfl rfl)
/-! ### letter_kind -/
abbrev st_letter_kind : Stmt := top 25
theorem sc_letter_kind : FnScope ["letter", "plain", "word", "sign"] ["letter", "plain"] (defScope st_letter_kind) := ⟨rfl, rfl, rfl, by decide +kernel, rfl, by decide +kernel, by decide +kernel⟩
def r_letter_kind : List PyData → Res → Prop := fun ds r => ∃ (x : Lt) (p : Str), ds = [embT x, .str p] ∧ r = .dat (emb (lk x p))
theorem ok_letter_kind (G : Mg K mg)  (F : Fun K "letter_kind" "letter_kind" st_letter_kind f fd) : FnOk P w K mg base CX0 1 f fd ["letter", "plain"] (spR K r_letter_kind) := by
  refine Fun.okR F sc_letter_kind r_letter_kind (by rintro _ _ ⟨_, _, rfl, _⟩; rfl) fun cdv A outer s H E hr ds r h => ?_
  have nd := sc_letter_kind.nd
  obtain ⟨⟨z, sg⟩, p, rfl, rfl⟩ := h
  cases sg with
  | true => exact (ew_cons (es_unp 2 3 (ev_var 0 rfl) 
  (ew_one (es_ret (eg_ifT (et_cmp (CmpR.to cm_eqI rfl) (ev_var 3 rfl) ev_int) (ev_var 2 rfl)) rfl)) (nd := nd)))
  | false => exact (ew_cons (es_unp 2 3 (ev_var 0 rfl) 
  (ew_one (es_ret (eg_ifF (et_cmp (CmpR.to cm_eqI rfl) (ev_var 3 rfl) ev_int) (ev_tup (ea_cons ev_str (ea_cons (ev_tup (ea_cons ev_str (ea_cons (ev_var 1 rfl) (ea_cons (ev_var 1 rfl) ea_nil)))) (ea_cons (ev_var 2 rfl) ea_nil))))) rfl)) (nd := nd)))
/-! ### form_in -/
abbrev st_form_in : Stmt := top 26
theorem sc_form_in : FnScope ["letters", "plain", "found", "letter"] ["letters", "plain"] (defScope st_form_in) := ⟨rfl, rfl, rfl, by decide +kernel, rfl, by decide +kernel, by decide +kernel⟩
def r_form_in : List PyData → Res → Prop := fun ds r => ∃ (l : List Lt) (p : Str), ds = [.list (embL l), .str p] ∧ (∀ x ∈ l, okw x.1 = true) ∧ l.length ≤ 1000 ∧ r = .dat (emb (form l p))
theorem ok_form_in (G : Mg K mg) (C_letter_kind : Cal P w K mg base 1 "letter_kind" ["letter", "plain"] (spR K r_letter_kind)) (F : Fun K "form_in" "form_in" st_form_in f fd) : FnOk P w K mg base CX0 2 f fd ["letters", "plain"] (spR K r_form_in) := by
  refine Fun.okR F sc_form_in r_form_in (by rintro _ _ ⟨_, _, rfl, _⟩; rfl) fun cdv A outer s H E hr ds r h => ?_
  have nd := sc_form_in.nd
  obtain ⟨l, p, rfl, hl, hlen, rfl⟩ := h
  cases l with
  | nil => exact (ew_cons (es_ifT (et_cmp (CmpR.to (cm_eqNil hr.units (lay_embL hl)) rfl) (ev_var 0 rfl) (EG.ev (el_lst ea_nil (small_len rfl)))) (ew_one (es_ret (ev_tup (ea_cons ev_str (ea_cons (ev_var 1 rfl) (ea_cons (ev_var 1 rfl) ea_nil)))) rfl))))
  | cons x t =>
    refine (ew_cons (es_ifF (et_cmp (CmpR.to (cm_eqNil hr.units (lay_embL hl)) rfl) (ev_var 0 rfl) (EG.ev (el_lst ea_nil (small_len rfl)))) (ew_nil (ew_cons (es_set 2 (eg_call C_letter_kind (hr.mono (by omega)) (ea_cons (ev_ix (ev_var 0 rfl) ev_int (by exact at_zero _ _)) (ea_cons (ev_var 1 rfl) ea_nil)) ⟨x, p, rfl, rfl⟩) (ew_cons ?_) (nd := nd))))))
    refine es_for (ds := embL t) 3 (fun m δ' n' => ∃ y : Slot, δ' = [.dat (.list (embL (x :: t))), .dat (.str p), .dat (emb (form (x :: t.take m) p)), y] ∧ n' = .none ∧ no1 y) (ei_list (EG.ev (el_slice (ev_var 0 rfl) (eo_some ev_int) eo_none (cut_tail _ _)))) ⟨.unk, rfl, rfl, rfl⟩ (fun m d δ' n' hdm hI => ?_) (fun δ' n' hI => ?_) nd
    · obtain ⟨y, rfl, rfl, hy⟩ := hI
      obtain ⟨z, hz, hzm, rfl⟩ := map_get hdm
      refine ⟨.inr (nl_embT z), ew_one (es_set 2 (ev_tup (ea_cons ev_str (ea_cons (ev_var 2 rfl) (ea_cons (eg_call C_letter_kind (hr.mono (by omega)) (ea_cons (ev_var 3 rfl) (ea_cons (ev_var 1 rfl) ea_nil)) ⟨_, _, rfl, rfl⟩) ea_nil)))) ?_ (nd := nd))⟩
      refine ⟨.dat (embT z), ?_, rfl, rfl⟩
      rw [take_snoc hz, show x :: (t.take m ++ [z]) = (x :: t.take m) ++ [z] from rfl, form_snoc _ _ _ (by simp)]
      rfl
    · obtain ⟨y, rfl, rfl, hy⟩ := hI
      rw [show (embL t).length = t.length from embL_len t, List.take_length]
      exact ew_one (es_ret (ev_var 2 rfl) rfl)
/-! ### ends_of -/
abbrev st_ends_of : Stmt := top 29
theorem sc_ends_of : FnScope ["step", "told"] ["step"] (defScope st_ends_of) := ⟨rfl, rfl, rfl, by decide +kernel, rfl, by decide +kernel, by decide +kernel⟩
def r_ends_of : List PyData → Res → Prop := fun ds r => (∃ (s : MM.Step) (a b : Kd), ds = [embS s] ∧ SOk 40 130 s a b ∧ r = .dat (.tuple [emb a, emb b])) ∨ (∃ z : Str, ds = [.str z] ∧ r = .dat .none)
theorem ok_ends_of (G : Mg K mg) (C_told_in : Cal P w K mg base 174 "told_in" ["value"] (spR K (r_told_in 130))) (F : Fun K "ends_of" "ends_of" st_ends_of f fd) : FnOk P w K mg base CX0 175 f fd ["step"] (spR K r_ends_of) := by
  refine Fun.okR F sc_ends_of r_ends_of (by rintro _ _ (⟨_, _, _, rfl, _⟩ | ⟨_, rfl, _⟩) <;> rfl) fun cdv A outer s H E hr ds r h => ?_
  have nd := sc_ends_of.nd
  obtain ⟨⟨u, d⟩, a, b, rfl, h, rfl⟩ | ⟨z, rfl, rfl⟩ := h
  · cases u with
    | true =>
      have h : Tl 40 130 d [a] b := h
      show EW _ _ (startS _ [.tuple [.str "on", embD d]]) _ _ _
      exact (ew_cons (es_ifF (et_bw (eb_orF (et_not (et_val (G.isi .tuple rfl rfl rfl (ev_var 0 rfl)))) (eb_orF (et_cmp (CmpR.to cm_neI rfl) (eg_callB (cr_len rfl) (ea_cons (ev_var 0 rfl) ea_nil) G.len boot_len) ev_int) (eb_or1 (et_not (et_val (G.isi .str rfl rfl rfl (ev_ix (ev_var 0 rfl) ev_int rfl)))))))) (ew_nil 
  (ew_cons (es_ifF (et_cmp (CmpR.to (cm_notInT (l := ["on", "back"])) (by decide +kernel)) (ev_ix (ev_var 0 rfl) ev_int rfl) (ev_tup (ea_cons ev_str (ea_cons ev_str ea_nil)))) (ew_nil 
  (ew_cons (es_set 1 (eg_call C_told_in (hr.mono (by omega)) (ea_cons (ev_ix (ev_var 0 rfl) ev_int rfl) ea_nil) ⟨_, _, _, rfl, h, rfl⟩) 
  (ew_cons (es_ifF (et_bw (eb_orF (et_cmp (CmpR.to cm_isN rfl) (ev_var 1 rfl) ev_non) (eb_or1 (et_cmp (CmpR.to cm_neI rfl) (eg_callB (cr_len rfl) (ea_cons (ev_ix (ev_var 1 rfl) ev_int rfl) ea_nil) G.len boot_len) ev_int)))) (ew_nil 
  (ew_one (es_ret (eg_ifT (et_cmp (CmpR.to cm_eqS (by decide +kernel)) (ev_ix (ev_var 0 rfl) ev_int rfl) ev_str) (ev_tup (ea_cons (ev_ix (ev_ix (ev_var 1 rfl) ev_int rfl) ev_int rfl) (ea_cons (ev_ix (ev_var 1 rfl) ev_int rfl) ea_nil)))) rfl))))) (nd := nd)))))))))
    | false =>
      have h : Tl 40 130 d [b] a := h
      show EW _ _ (startS _ [.tuple [.str "back", embD d]]) _ _ _
      exact (ew_cons (es_ifF (et_bw (eb_orF (et_not (et_val (G.isi .tuple rfl rfl rfl (ev_var 0 rfl)))) (eb_orF (et_cmp (CmpR.to cm_neI rfl) (eg_callB (cr_len rfl) (ea_cons (ev_var 0 rfl) ea_nil) G.len boot_len) ev_int) (eb_or1 (et_not (et_val (G.isi .str rfl rfl rfl (ev_ix (ev_var 0 rfl) ev_int rfl)))))))) (ew_nil 
  (ew_cons (es_ifF (et_cmp (CmpR.to (cm_notInT (l := ["on", "back"])) (by decide +kernel)) (ev_ix (ev_var 0 rfl) ev_int rfl) (ev_tup (ea_cons ev_str (ea_cons ev_str ea_nil)))) (ew_nil 
  (ew_cons (es_set 1 (eg_call C_told_in (hr.mono (by omega)) (ea_cons (ev_ix (ev_var 0 rfl) ev_int rfl) ea_nil) ⟨_, _, _, rfl, h, rfl⟩) 
  (ew_cons (es_ifF (et_bw (eb_orF (et_cmp (CmpR.to cm_isN rfl) (ev_var 1 rfl) ev_non) (eb_or1 (et_cmp (CmpR.to cm_neI rfl) (eg_callB (cr_len rfl) (ea_cons (ev_ix (ev_var 1 rfl) ev_int rfl) ea_nil) G.len boot_len) ev_int)))) (ew_nil 
  (ew_one (es_ret (eg_ifF (et_cmp (CmpR.to cm_eqS (by decide +kernel)) (ev_ix (ev_var 0 rfl) ev_int rfl) ev_str) (ev_tup (ea_cons (ev_ix (ev_var 1 rfl) ev_int rfl) (ea_cons (ev_ix (ev_ix (ev_var 1 rfl) ev_int rfl) ev_int rfl) ea_nil)))) rfl))))) (nd := nd)))))))))
  · exact (ew_cons (es_ifT (et_bw (eb_orT (et_not (et_val (G.isi .tuple rfl rfl rfl (ev_var 0 rfl)))))) (ew_one (es_ret ev_non rfl))))
end
end PU
namespace PU
open PySem PySem.Spec PyProof.Rows L2 StX MM

/-- every step leads from a type to a type -/
def Val (c : Chain) : Prop := ∀ s ∈ c, ∃ a b, SOk 40 130 s a b
def eD (s : MM.Step) : PyData := .tuple [emb (ends s).1, emb (ends s).2]
def mis (c : Chain) (i : Nat) : Bool := match c[i]?, c[i + 1]? with
  | some s, some t => !decide ((ends s).2 = (ends t).1)
  | _, _ => false
def linked : Chain → Bool
  | [] => true
  | [_] => true
  | s :: t :: c => decide ((ends s).2 = (ends t).1) && linked (t :: c)
theorem any_mis : ∀ c : Chain, ((List.range (c.length - 1)).map (mis c)).any id = !linked c
  | [] => rfl
  | [_] => rfl
  | s :: t :: c => by
    have ih := any_mis (t :: c)
    have e1 : (s :: t :: c).length - 1 = (t :: c).length - 1 + 1 := by simp
    rw [e1, List.range_succ_eq_map, List.map_cons, List.map_map, List.any_cons]
    have e2 : (mis (s :: t :: c)) ∘ Nat.succ = mis (t :: c) := by
      funext i
      show mis (s :: t :: c) (i + 1) = _
      unfold mis
      rfl
    rw [e2, ih]
    show (mis (s :: t :: c) 0 || _) = !(decide _ && linked (t :: c))
    rw [Bool.not_and]
    rfl
def kindsOf : Chain → List Kd
  | [] => []
  | s :: c => (ends s).1 :: (s :: c).map fun t => (ends t).2
theorem Path.val {D n : Nat} (hD : D ≤ 40) (hn : n ≤ 130) : ∀ {c : Chain} {a b : Kd}, Path D n c a b → Val c
  | [], _, _, _ => fun s h => nomatch h
  | t :: c, a, b, ⟨m, h, h'⟩ => fun s hs => by
    rcases List.mem_cons.mp hs with e | hs
    · subst e; exact ⟨_, _, h.mono hD hn⟩
    · exact Path.val hD hn h' s hs
theorem Path.linked {D n : Nat} : ∀ {c : Chain} {a b : Kd}, Path D n c a b → linked c = true
  | [], _, _, _ => rfl
  | [_], _, _, _ => rfl
  | s :: t :: c, a, b, ⟨m, h, ⟨m', h1, h2⟩⟩ => by
    show (decide ((ends s).2 = (ends t).1) && PU.linked (t :: c)) = true
    have ih : PU.linked (t :: c) = true := Path.linked (show Path D n (t :: c) m b from ⟨m', h1, h2⟩)
    rw [ih, h.ends, h1.ends]
    simp
theorem Path.kinds {D n : Nat} : ∀ {c : Chain} {a b : Kd}, c ≠ [] → Path D n c a b → kindsOf c = nodes a c
  | [], _, _, h, _ => absurd rfl h
  | s :: c, a, b, _, ⟨m, h, h'⟩ => by
    have e1 : (ends s).1 = a := by rw [h.ends]
    have e2 : (ends s).2 = m := by rw [h.ends]
    show (ends s).1 :: (ends s).2 :: c.map (fun t => (ends t).2) = a :: nodes (ends s).2 c
    rw [e1, e2]
    congr 1
    cases c with
    | nil => rfl
    | cons t c =>
      have ih := Path.kinds (by simp) h'
      rw [← ih]
      have e3 : (ends t).1 = m := by obtain ⟨m', h1, _⟩ := h'; rw [h1.ends]
      show m :: _ = (ends t).1 :: _
      rw [e3]
theorem lay_embS {s : MM.Step} {a b : Kd} {D n : Nat} (h : SOk D n s a b) : (embS s).canLay0 = true := by
  obtain ⟨u, d⟩ := s
  cases u with
  | true => exact lay2 (show PyData.strOk "on" = true by decide +kernel) (lay_embD (show Tl D n d [a] b from h))
  | false => exact lay2 (show PyData.strOk "back" = true by decide +kernel) (lay_embD (show Tl D n d [b] a from h))
theorem lay_embC {c : Chain} (h : Val c) : PyData.canLayAll0 (embC c) = true := lay_list fun s hs => by
  obtain ⟨a, b, h⟩ := h s hs
  exact lay_embS h
theorem lay_eD {s : MM.Step} {a b : Kd} {D n : Nat} (h : SOk D n s a b) : (eD s).canLay0 = true := by
  have g := h.good
  unfold eD
  rw [h.ends]
  show ((emb a).canLay0 && ((emb b).canLay0 && true)) = true
  rw [lay_emb g.1.1, lay_emb g.2.1] <;> rfl
theorem lay_app {a b : List PyData} (h1 : PyData.canLayAll0 a = true) (h2 : PyData.canLayAll0 b = true) : PyData.canLayAll0 (a ++ b) = true := by
  induction a with
  | nil => exact h2
  | cons x a ih =>
    have h : (x.canLay0 && PyData.canLayAll0 a) = true := h1
    rw [Bool.and_eq_true] at h
    show (x.canLay0 && PyData.canLayAll0 (a ++ b)) = true
    rw [h.1, ih h.2] <;> rfl
theorem EqCal {X : Cx} {f : Value} {xs : List PyData} {b b' : Bool} (h : CalR X f xs (.dat (.bool b))) (e : b = b') : CalR X f xs (.dat (.bool b')) := e ▸ h
theorem EIto {X : Cx} {tg iter : Expr} {δ : PEnv} {ds es : List PyData} (h : EI X tg iter δ ds) (e : ds = es) : EI X tg iter δ es := e ▸ h
theorem at_map {α : Type} {g : α → PyData} {l : List α} {i : Nat} {x : α} (h : l[i]? = some x) : atI (l.map g) (i : Int) = some (g x) := atI_nat (by rw [List.getElem?_map, h] <;> rfl)

section
variable {P : Program} {w : World} {K : PySem.W.Frag} {mg : Str → Option Value} {base : Heap} {f : Addr} {fd : FuncData}

/-! ### along -/
abbrev st_along : Stmt := top 30
theorem sc_along : FnScope ["value", "ends", "step", "at", "end"] ["value"] (defScope st_along) := ⟨rfl, rfl, rfl, by decide +kernel, rfl, by decide +kernel, by decide +kernel⟩
def r_along : List PyData → Res → Prop := fun ds r =>
  (∃ c : Chain, ds = [.list (embC c)] ∧ Val c ∧ c.length ≤ 1000 ∧ c ≠ [] ∧ linked c = true ∧ r = .fresh (embK (kindsOf c))) ∨
  (∃ c : Chain, ds = [.list (embC c)] ∧ Val c ∧ c.length ≤ 1000 ∧ (c = [] ∨ linked c = false) ∧ r = .dat .none) ∨
  (∃ (c : Chain) (z : Str), ds = [.list (embC c ++ [.str z])] ∧ Val c ∧ c.length ≤ 1000 ∧ PyData.strOk z = true ∧ r = .dat .none) ∨
  (∃ es : List PyData, ds = [.tuple es] ∧ r = .dat .none)
theorem ok_along (G : Mg K mg) (C_ends_of : Cal P w K mg base 175 "ends_of" ["step"] (spR K r_ends_of)) (F : Fun K "along" "along" st_along f fd) : FnOk P w K mg base CX0 176 f fd ["value"] (spR K r_along) := by
  refine Fun.okR F sc_along r_along (by rintro _ _ (⟨_, rfl, _⟩ | ⟨_, rfl, _⟩ | ⟨_, _, rfl, _⟩ | ⟨_, rfl, _⟩) <;> rfl) fun cdv A outer s H E hr ds r h => ?_
  have nd := sc_along.nd
  have hu := hr.units
  have hu5 : (A.deeper (envOfC "along" (defScope st_along) s.heap.objs.size f cdv)).units + 65 < cLine := by have := hr.un; omega
  have empty : ∀ (r : Res), r = .dat .none → EW (cxOf CX0 P w K mg base ["value", "ends", "step", "at", "end"] "along" (defScope st_along) f cdv A outer s H E).nox (defBody st_along) (startS ["value", "ends", "step", "at", "end"] [.list (embC [])]) .none (fun _ _ => r = .dat .none) (fun r' _ => r' = r) := by
    intro r e
    subst e
    exact (ew_cons (es_ifT (et_bw (eb_orF (et_not (et_val (G.isi .list rfl rfl rfl (ev_var 0 rfl)))) (eb_or1 (et_cmp (CmpR.to (cm_eqNil hu rfl) rfl) (ev_var 0 rfl) (EG.ev (el_lst ea_nil (small_len rfl))))))) (ew_one (es_ret ev_non rfl))))
  have steps : ∀ (r : Res) (c : Chain), Val c → c.length ≤ 1000 → c ≠ [] → (linked c = true → r = .fresh (embK (kindsOf c))) → (linked c = false → r = .dat .none) → EW (cxOf CX0 P w K mg base ["value", "ends", "step", "at", "end"] "along" (defScope st_along) f cdv A outer s H E).nox (defBody st_along) (startS ["value", "ends", "step", "at", "end"] [.list (embC c)]) .none (fun _ _ => r = .dat .none) (fun r' _ => r' = r) := by
    intro r c hv hlen hne hT hF
    have hlay := lay_embC hv
    have h2 : EV (cxOf CX0 P w K mg base ["value", "ends", "step", "at", "end"] "along" (defScope st_along) f cdv A outer s H E).nox (match (defBody st_along) with | (_ :: .Assign _ e _ :: _) => e | _ => .Constant .none 0 ⟨0, 0, 0, 0⟩) (flat (startS ["value", "ends", "step", "at", "end"] [.list (embC c)])) (.list (c.map eD)) :=
      EG.ev (el_lcT (g := embS) (f := eD) 2 nd (ei_list (ev_var 0 rfl)) (show blkC ["value", "ends", "step", "at", "end"] (defScope st_along) _ _ = true by decide +kernel) (fun y hy => by
        obtain ⟨a, b, hs⟩ := hv y hy
        have e : eD y = .tuple [emb a, emb b] := by unfold eD; rw [hs.ends]
        rw [e]
        exact fun _ _ _ _ _ => eg_call C_ends_of (hr.mono (by omega)) (ea_cons (ev_var 2 rfl) ea_nil) (.inl ⟨y, a, b, rfl, hs, rfl⟩)) (le_line (by omega)))
    have hnone : (c.map eD).any (fun z => PyData.eqv z .none) = false := by
      rw [List.any_eq_false]
      intro z hz
      obtain ⟨s, _, rfl⟩ := List.mem_map.mp hz
      show ¬ PyData.eqv (.tuple _) .none = true
      simp [PyData.eqv]
    have hlE : PyData.canLayAll0 (c.map eD) = true := lay_list fun s hs => by
      obtain ⟨a, b, h⟩ := hv s hs
      exact lay_eD h
    refine (ew_cons (es_ifF (et_bw (eb_orF (et_not (et_val (G.isi .list rfl rfl rfl (ev_var 0 rfl)))) (eb_or1 (et_cmp (CmpR.to (cm_eqNil hu hlay) (by cases c with | nil => exact absurd rfl hne | cons _ _ => rfl)) (ev_var 0 rfl) (EG.ev (el_lst ea_nil (small_len rfl))))))) (ew_nil (ew_cons (es_set 1 h2 (ew_cons
      (es_if (k := !linked c) (et_bw (eb_orF (et_cmp (CmpR.to (cm_inD hu5 rfl hlE (Nat.zero_le _)) hnone) ev_non (ev_var 1 rfl)) (eb_or1 (et_val (eg_callB (EqCal (cr_anyB (bs := (List.range (c.length - 1)).map (mis c))) (by rw [any_mis])) (ea_cons (EG.ev (EG.cast (el_lcT (l := List.range (c.length - 1)) (g := fun i => .int (1 + (i : Int))) (f := fun i => .bool (mis c i)) 3 nd
        (EIto (ei_range2 ev_int (eg_callB (cr_len rfl) (ea_cons (ev_var 1 rfl) ea_nil) G.len boot_len) G.range (by simp only [List.length_map]; omega)) (by unfold rngD; rw [List.length_map, show ((c.length : Int) - 1).toNat = c.length - 1 from by omega])) (show blkC ["value", "ends", "step", "at", "end"] (defScope st_along) _ _ = true by decide +kernel) (fun i hi => ?_) (le_line (by simp <;> omega))) (by rw [List.map_map] <;> rfl))) ea_nil) G.any rfl))))) (fun hk => ?_) (fun hk => ?_))) (nd := nd))))))
    · have hi : i < c.length - 1 := List.mem_range.mp hi
      have h1 : c[i]? = some c[i] := List.getElem?_eq_getElem (by omega)
      have h2 : c[i + 1]? = some c[i + 1] := List.getElem?_eq_getElem (by omega)
      obtain ⟨a1, b1, hs1⟩ := hv _ (List.mem_of_getElem? h1)
      obtain ⟨a2, b2, hs2⟩ := hv _ (List.mem_of_getElem? h2)
      have em : mis c i = !decide (b1 = a2) := by
        unfold mis
        rw [h1, h2]
        show (!decide ((ends c[i]).2 = (ends c[i + 1]).1)) = _
        rw [hs1.ends, hs2.ends]
      rw [em]
      have g1 := hs1.good
      have g2 := hs2.good
      exact fun _ _ _ _ _ => (ev_cmp (CmpR.to (cm_ne hu (lay_emb g1.2.1) (lay_emb g2.1.1) (by rw [dep_emb, dep_emb]; omega)) (by rw [eqv_emb])) (ev_ix (ev_ix (ev_var 1 rfl) (eg_bin br_sub (ev_var 3 rfl) ev_int) (by show atI (c.map eD) (1 + (i : Int) - 1) = _; rw [show 1 + (i : Int) - 1 = ((i : Nat) : Int) by omega]; exact at_map h1)) ev_int (by show atI [emb (ends c[i]).1, emb (ends c[i]).2] 1 = _; rw [hs1.ends] <;> rfl))
        (ev_ix (ev_ix (ev_var 1 rfl) (ev_var 3 rfl) (by show atI (c.map eD) (1 + (i : Int)) = _; rw [show 1 + (i : Int) = ((i + 1 : Nat) : Int) by omega]; exact at_map h2)) ev_int (by show atI [emb (ends c[i + 1]).1, emb (ends c[i + 1]).2] 0 = _; rw [hs2.ends] <;> rfl)))
    · exact ew_one (es_ret ev_non (hF (by simpa using hk)).symm)
    · refine ew_nil (ew_one (es_ret (el_lst (ea_cons (ev_ix (ev_ix (ev_var 1 rfl) ev_int (d := eD (c.headD (true, .is bot))) ?_) ev_int rfl) (ea_star (EG.ev (el_lcT (l := c) (g := eD) (f := fun t => emb (ends t).2) 4 nd (ei_list (ev_var 1 rfl)) (show blkC ["value", "ends", "step", "at", "end"] (defScope st_along) _ _ = true by decide +kernel) (fun y hy => fun _ _ _ _ _ => ev_ix (ev_var 4 rfl) ev_int rfl) (le_line (by omega)))) ea_nil)) (le_line (by simp <;> omega))) ?_))
      · cases c with
        | nil => exact absurd rfl hne
        | cons t c => exact at_zero _ _
      · rw [hT (by simpa using hk)]
        cases c with
        | nil => exact absurd rfl hne
        | cons t c =>
          show Res.fresh (emb (ends t).1 :: ((t :: c).map (fun t => emb (ends t).2) ++ [])) = Res.fresh (emb (ends t).1 :: ((t :: c).map fun t => (ends t).2).map emb)
          rw [List.append_nil, List.map_map] <;> rfl
  rcases h with ⟨c, rfl, hv, hlen, hne, hl, rfl⟩ | ⟨c, rfl, hv, hlen, he, rfl⟩ | ⟨c, z, rfl, hv, hlen, hz, rfl⟩ | ⟨es, rfl, rfl⟩
  · exact steps _ c hv hlen hne (fun _ => rfl) (fun z => by rw [hl] at z; cases z)
  · by_cases hne : c = []
    · subst hne; exact empty _ rfl
    · have hl : linked c = false := he.resolve_left hne
      exact steps _ c hv hlen hne (fun z => by rw [hl] at z; cases z) (fun _ => rfl)
  · have hlay : PyData.canLayAll0 (embC c ++ [.str z]) = true := lay_app (lay_embC hv) (by show (PyData.canLay0 (.str z) && true) = true; rw [show PyData.canLay0 (.str z) = PyData.strOk z from rfl, hz] <;> rfl)
    have h2 : EV (cxOf CX0 P w K mg base ["value", "ends", "step", "at", "end"] "along" (defScope st_along) f cdv A outer s H E).nox (match (defBody st_along) with | (_ :: .Assign _ e _ :: _) => e | _ => .Constant .none 0 ⟨0, 0, 0, 0⟩) (flat (startS ["value", "ends", "step", "at", "end"] [.list (embC c ++ [.str z])])) (.list (c.map eD ++ [.none])) := by
      exact EG.ev (EG.cast (el_lcT
        (l := c.map some ++ [none]) (g := fun o => match o with | some s => embS s | none => .str z) (f := fun o => match o with | some s => eD s | none => .none) 2 nd (EIto (ei_list (ev_var 0 rfl)) (by rw [List.map_append, List.map_map] <;> rfl)) (show blkC ["value", "ends", "step", "at", "end"] (defScope st_along) _ _ = true by decide +kernel) (fun y hy => by
        cases y with
        | none => exact fun _ _ _ _ _ => eg_call C_ends_of (hr.mono (by omega)) (ea_cons (ev_var 2 rfl) ea_nil) (.inr ⟨z, rfl, rfl⟩)
        | some y =>
          have hy : y ∈ c := by
            rcases List.mem_append.mp hy with h | h
            · obtain ⟨y', h1, h2⟩ := List.mem_map.mp h; cases h2; exact h1
            · simp at h
          obtain ⟨a, b, hs⟩ := hv y hy
          show EGB _ _ _ _ (.dat (eD y))
          have e : eD y = .tuple [emb a, emb b] := by unfold eD; rw [hs.ends]
          rw [e]
          exact fun _ _ _ _ _ => eg_call C_ends_of (hr.mono (by omega)) (ea_cons (ev_var 2 rfl) ea_nil) (.inl ⟨y, a, b, rfl, hs, rfl⟩)) (le_line (by simp <;> omega))) (by rw [List.map_append, List.map_map] <;> rfl))
    have hlE : PyData.canLayAll0 (c.map eD ++ [.none]) = true := lay_app (lay_list fun s hs => by
      obtain ⟨a, b, h⟩ := hv s hs
      exact lay_eD h) rfl
    have hin : (c.map eD ++ [PyData.none]).any (fun z => PyData.eqv z .none) = true := by rw [List.any_append]; simp [PyData.eqv]
    exact (ew_cons (es_ifF (et_bw (eb_orF (et_not (et_val (G.isi .list rfl rfl rfl (ev_var 0 rfl)))) (eb_or1 (et_cmp (CmpR.to (cm_eqNil hu hlay) (isE_app _ _)) (ev_var 0 rfl) (EG.ev (el_lst ea_nil (small_len rfl))))))) (ew_nil (ew_cons (es_set 1 h2 (ew_cons
      (es_ifT (et_bw (eb_orT (et_cmp (CmpR.to (cm_inD hu5 rfl hlE (Nat.zero_le _)) hin) ev_non (ev_var 1 rfl)))) (ew_one (es_ret ev_non rfl)))) (nd := nd))))))
  · exact (ew_cons (es_ifT (et_bw (eb_orT (et_not (et_val (G.isi .list rfl rfl rfl (ev_var 0 rfl)))))) (ew_one (es_ret ev_non rfl))))
/-! ### check_chain -/
abbrev st_check_chain : Stmt := top 31
theorem sc_check_chain : FnScope ["value"] ["value"] (defScope st_check_chain) := ⟨rfl, rfl, rfl, by decide +kernel, rfl, by decide +kernel, by decide +kernel⟩
def r_check_chain : List PyData → Res → Prop := fun ds r => ∃ c : Chain, ds = [.list (embC c)] ∧ Val c ∧ c.length ≤ 1000 ∧ c ≠ [] ∧ linked c = true ∧ r = .dat .none
theorem ok_check_chain (G : Mg K mg) (C_along : Cal P w K mg base 176 "along" ["value"] (spR K r_along)) (F : Fun K "check_chain" "check_chain" st_check_chain f fd) : FnOk P w K mg base CX0 177 f fd ["value"] (spR K r_check_chain) := by
  refine Fun.okR F sc_check_chain r_check_chain (by rintro _ _ ⟨_, rfl, _⟩; rfl) fun cdv A outer s H E hr ds r h => ?_
  have nd := sc_check_chain.nd
  obtain ⟨c, rfl, hv, hlen, hne, hl, rfl⟩ := h
  exact (ew_one (es_ifF (et_cmp (CmpR.to cm_isN rfl) (EG.ev (eg_call C_along (hr.mono (by omega)) (ea_cons (ev_var 0 rfl) ea_nil) (.inl ⟨c, rfl, hv, hlen, hne, hl, rfl⟩))) ev_non) (ew_nil rfl)))
/-! ### kinds_along -/
abbrev st_kinds_along : Stmt := top 56
theorem sc_kinds_along : FnScope ["chain"] ["chain"] (defScope st_kinds_along) := ⟨rfl, rfl, rfl, by decide +kernel, rfl, by decide +kernel, by decide +kernel⟩
def r_kinds_along : List PyData → Res → Prop := fun ds r => ∃ c : Chain, ds = [.list (embC c)] ∧ Val c ∧ c.length ≤ 1000 ∧ c ≠ [] ∧ linked c = true ∧ r = .fresh (embK (kindsOf c))
theorem ok_kinds_along (G : Mg K mg) (C_along : Cal P w K mg base 176 "along" ["value"] (spR K r_along)) (C_check_chain : Cal P w K mg base 177 "check_chain" ["value"] (spR K r_check_chain)) (F : Fun K "kinds_along" "kinds_along" st_kinds_along f fd) : FnOk P w K mg base CX0 178 f fd ["chain"] (spR K r_kinds_along) := by
  refine Fun.okR F sc_kinds_along r_kinds_along (by rintro _ _ ⟨_, rfl, _⟩; rfl) fun cdv A outer s H E hr ds r h => ?_
  have nd := sc_kinds_along.nd
  obtain ⟨c, rfl, hv, hlen, hne, hl, rfl⟩ := h
  exact (ew_cons (es_expr (eg_call C_check_chain (hr.mono (by omega)) (ea_cons (ev_var 0 rfl) ea_nil) ⟨c, rfl, hv, hlen, hne, hl, rfl⟩) (ew_one (es_ret (eg_call C_along (hr.mono (by omega)) (ea_cons (ev_var 0 rfl) ea_nil) (.inl ⟨c, rfl, hv, hlen, hne, hl, rfl⟩)) rfl))))
end
end PU
namespace PU
open PySem PySem.Spec PyProof.Rows L2 StX MM

theorem embS_mk (u : Bool) (d : Dv) : embS (u, d) = .tuple [.str (way u), embD d] := rfl
theorem turned_map (c : Chain) : (c.reverse.map fun s => embS (flip s)) = embC (turned c) := by unfold embC turned; rw [List.map_map] <;> rfl
theorem embC_rev (c : Chain) : (embC c).reverse = c.reverse.map fun s => PyData.tuple [.str (way s.1), embD s.2] := by unfold embC; rw [← List.map_reverse] <;> rfl
def sideI (b : Bool) : Int := if b = true then 1 else 0
theorem led_snoc (c : Chain) (s : MM.Step) (u : MM.Wd) (k : Kd) (b : Bool) : led (c ++ [s]) u k b = led c u k b ++ [ledS u k b s] := List.map_append
theorem embC_snoc (c : Chain) (s : MM.Step) : embC (c ++ [s]) = embC c ++ [embS s] := List.map_append

section
variable {P : Program} {w : World} {K : PySem.W.Frag} {mg : Str → Option Value} {base : Heap} {f : Addr} {fd : FuncData}

/-! ### turned_chain -/
abbrev st_turned_chain : Stmt := top 32
theorem sc_turned_chain : FnScope ["chain", "way", "derivation"] ["chain"] (defScope st_turned_chain) := ⟨rfl, rfl, rfl, by decide +kernel, rfl, by decide +kernel, by decide +kernel⟩
def r_turned_chain : List PyData → Res → Prop := fun ds r => ∃ c : Chain, ds = [.list (embC c)] ∧ c.length ≤ 1000 ∧ r = .fresh (embC (turned c))
theorem ok_turned_chain (G : Mg K mg)  (F : Fun K "turned_chain" "turned_chain" st_turned_chain f fd) : FnOk P w K mg base CX0 1 f fd ["chain"] (spR K r_turned_chain) := by
  refine Fun.okR F sc_turned_chain r_turned_chain (by rintro _ _ ⟨_, rfl, _⟩; rfl) fun cdv A outer s H E hr ds r h => ?_
  have nd := sc_turned_chain.nd
  obtain ⟨c, rfl, hlen, rfl⟩ := h
  exact (ew_one (es_ret (EG.cast (el_lcT2 (l := c.reverse) (g1 := fun s => .str (way s.1)) (g2 := fun s => embD s.2) (f := fun s => embS (flip s)) 1 2 nd (ei_list (EG.ev (el_rev (ev_var 0 rfl) (embC_rev c)))) (show blkC ["chain", "way", "derivation"] (defScope st_turned_chain) _ _ = true by decide +kernel) (fun z hz => by
    obtain ⟨u, d⟩ := z
    cases u with
    | true => exact fun _ _ _ _ _ => (ev_tup (ea_cons (eg_ifT (et_cmp (CmpR.to cm_eqS (show decide (("on" : Str) = "on") = true by decide +kernel)) (ev_var 1 rfl) ev_str) ev_str) (ea_cons (ev_var 2 rfl) ea_nil)))
    | false => exact fun _ _ _ _ _ => (ev_tup (ea_cons (eg_ifF (et_cmp (CmpR.to cm_eqS (show decide (("back" : Str) = "on") = false by decide +kernel)) (ev_var 1 rfl) ev_str) ev_str) (ea_cons (ev_var 2 rfl) ea_nil)))) (le_line (by rw [List.length_reverse]; omega))
    (fun _ _ _ _ _ => pg_tup rfl (pgs_cons (pg_name nd rfl (Or.inl rfl)) (pgs_cons (pg_name nd rfl (Or.inl rfl)) pgs_nil)))) (congrArg Res.fresh (turned_map c))) rfl))
/-! ### itself -/
abbrev st_itself : Stmt := top 33
theorem sc_itself : FnScope ["word"] ["word"] (defScope st_itself) := ⟨rfl, rfl, rfl, by decide +kernel, rfl, by decide +kernel, by decide +kernel⟩
def r_itself : List PyData → Res → Prop := fun ds r => ∃ k : Kd, ds = [emb k] ∧ r = .dat (embD (.is k))
theorem ok_itself (G : Mg K mg)  (F : Fun K "itself" "itself" st_itself f fd) : FnOk P w K mg base CX0 1 f fd ["word"] (spR K r_itself) := by
  refine Fun.okR F sc_itself r_itself (by rintro _ _ ⟨_, rfl, _⟩; rfl) fun cdv A outer s H E hr ds r h => ?_
  have nd := sc_itself.nd
  obtain ⟨k, rfl, rfl⟩ := h
  exact (ew_one (es_ret (ev_tup (ea_cons ev_str (ea_cons (ev_var 0 rfl) ea_nil))) rfl))
/-! ### behind_up -/
abbrev st_behind_up : Stmt := top 34
theorem sc_behind_up : FnScope ["one", "other"] ["one", "other"] (defScope st_behind_up) := ⟨rfl, rfl, rfl, by decide +kernel, rfl, by decide +kernel, by decide +kernel⟩
def r_behind_up : List PyData → Res → Prop := fun ds r => ∃ a b : Kd, ds = [emb a, emb b] ∧ r = .dat (embS (behindUp a b))
theorem ok_behind_up (G : Mg K mg) (C_itself : Cal P w K mg base 1 "itself" ["word"] (spR K r_itself)) (F : Fun K "behind_up" "behind_up" st_behind_up f fd) : FnOk P w K mg base CX0 2 f fd ["one", "other"] (spR K r_behind_up) := by
  refine Fun.okR F sc_behind_up r_behind_up (by rintro _ _ ⟨_, _, rfl, _⟩; rfl) fun cdv A outer s H E hr ds r h => ?_
  have nd := sc_behind_up.nd
  obtain ⟨a, b, rfl, rfl⟩ := h
  exact (ew_one (es_ret (ev_tup (ea_cons ev_str (ea_cons (ev_tup (ea_cons ev_str (ea_cons (ev_tup (ea_cons ev_str (ea_cons (eg_call C_itself (hr.mono (by omega)) (ea_cons (ev_var 0 rfl) ea_nil) ⟨_, rfl, rfl⟩) (ea_cons (eg_call C_itself (hr.mono (by omega)) (ea_cons (ev_var 1 rfl) ea_nil) ⟨_, rfl, rfl⟩) ea_nil)))) ea_nil))) ea_nil))) rfl))
/-! ### ahead_up -/
abbrev st_ahead_up : Stmt := top 35
theorem sc_ahead_up : FnScope ["one", "other"] ["one", "other"] (defScope st_ahead_up) := ⟨rfl, rfl, rfl, by decide +kernel, rfl, by decide +kernel, by decide +kernel⟩
def r_ahead_up : List PyData → Res → Prop := fun ds r => ∃ a b : Kd, ds = [emb a, emb b] ∧ r = .dat (embS (aheadUp a b))
theorem ok_ahead_up (G : Mg K mg) (C_itself : Cal P w K mg base 1 "itself" ["word"] (spR K r_itself)) (F : Fun K "ahead_up" "ahead_up" st_ahead_up f fd) : FnOk P w K mg base CX0 2 f fd ["one", "other"] (spR K r_ahead_up) := by
  refine Fun.okR F sc_ahead_up r_ahead_up (by rintro _ _ ⟨_, _, rfl, _⟩; rfl) fun cdv A outer s H E hr ds r h => ?_
  have nd := sc_ahead_up.nd
  obtain ⟨a, b, rfl, rfl⟩ := h
  exact (ew_one (es_ret (ev_tup (ea_cons ev_str (ea_cons (ev_tup (ea_cons ev_str (ea_cons (ev_tup (ea_cons ev_str (ea_cons (eg_call C_itself (hr.mono (by omega)) (ea_cons (ev_var 1 rfl) ea_nil) ⟨_, rfl, rfl⟩) (ea_cons (eg_call C_itself (hr.mono (by omega)) (ea_cons (ev_var 0 rfl) ea_nil) ⟨_, rfl, rfl⟩) ea_nil)))) ea_nil))) ea_nil))) rfl))
/-! ### gathered -/
abbrev st_gathered : Stmt := top 36
theorem sc_gathered : FnScope ["one", "other", "third", "inner"] ["one", "other", "third"] (defScope st_gathered) := ⟨rfl, rfl, rfl, by decide +kernel, rfl, by decide +kernel, by decide +kernel⟩
def r_gathered : List PyData → Res → Prop := fun ds r => ∃ a b c : Kd, ds = [emb a, emb b, emb c] ∧ r = .dat (embS (gath a b c))
theorem ok_gathered (G : Mg K mg) (C_itself : Cal P w K mg base 1 "itself" ["word"] (spR K r_itself)) (F : Fun K "gathered" "gathered" st_gathered f fd) : FnOk P w K mg base CX0 2 f fd ["one", "other", "third"] (spR K r_gathered) := by
  refine Fun.okR F sc_gathered r_gathered (by rintro _ _ ⟨_, _, _, rfl, _⟩; rfl) fun cdv A outer s H E hr ds r h => ?_
  have nd := sc_gathered.nd
  obtain ⟨a, b, c, rfl, rfl⟩ := h
  exact (ew_cons (es_set 3 (ev_tup (ea_cons ev_str (ea_cons (eg_call C_itself (hr.mono (by omega)) (ea_cons (ev_var 0 rfl) ea_nil) ⟨_, rfl, rfl⟩) (ea_cons (ev_tup (ea_cons ev_str (ea_cons (eg_call C_itself (hr.mono (by omega)) (ea_cons (ev_var 1 rfl) ea_nil) ⟨_, rfl, rfl⟩) (ea_cons (eg_call C_itself (hr.mono (by omega)) (ea_cons (ev_var 2 rfl) ea_nil) ⟨_, rfl, rfl⟩) ea_nil)))) ea_nil)))) 
  (ew_one (es_ret (ev_tup (ea_cons ev_str (ea_cons (ev_tup (ea_cons ev_str (ea_cons ev_int (ea_cons (ev_tup (ea_cons ev_str (ea_cons ev_int (ea_cons (ev_var 3 rfl) ea_nil)))) ea_nil)))) ea_nil))) rfl)) (nd := nd)))
/-! ### led_first -/
abbrev st_led_first : Stmt := top 37
theorem sc_led_first : FnScope ["derivation", "word", "kind"] ["derivation", "word", "kind"] (defScope st_led_first) := ⟨rfl, rfl, rfl, by decide +kernel, rfl, by decide +kernel, by decide +kernel⟩
def r_led_first : List PyData → Res → Prop := fun ds r => ∃ (d : Dv) (u : MM.Wd) (k : Kd), ds = [embD d, .str (Wd.nm u), emb k] ∧ r = .dat (.tuple [embD (ledFirst d u k).1, .bool (ledFirst d u k).2])
theorem ok_led_first (G : Mg K mg) (C_itself : Cal P w K mg base 1 "itself" ["word"] (spR K r_itself)) (F : Fun K "led_first" "led_first" st_led_first f fd) : FnOk P w K mg base CX0 2 f fd ["derivation", "word", "kind"] (spR K r_led_first) := by
  refine Fun.okR F sc_led_first r_led_first (by rintro _ _ ⟨_, _, _, rfl, _⟩; rfl) fun cdv A outer s H E hr ds r h => ?_
  have nd := sc_led_first.nd
  obtain ⟨d, u, k, rfl, rfl⟩ := h
  cases u with
  | ov => exact (ew_cons (es_ifT (et_cmp (CmpR.to cm_eqS (by decide +kernel)) (ev_var 1 rfl) ev_str) (ew_one (es_ret (ev_tup (ea_cons (ev_tup (ea_cons ev_str (ea_cons (ev_tup (ea_cons ev_str (ea_cons ev_int (ea_cons (eg_call C_itself (hr.mono (by omega)) (ea_cons (ev_var 2 rfl) ea_nil) ⟨_, rfl, rfl⟩) (ea_cons (ev_var 0 rfl) ea_nil))))) ea_nil))) (ea_cons ev_bl ea_nil))) rfl))))
  | un => exact (ew_cons (es_ifF (et_cmp (CmpR.to cm_eqS (by decide +kernel)) (ev_var 1 rfl) ev_str) (ew_nil 
  (ew_cons (es_ifT (et_cmp (CmpR.to cm_eqS (by decide +kernel)) (ev_var 1 rfl) ev_str) (ew_one (es_ret (ev_tup (ea_cons (ev_tup (ea_cons ev_str (ea_cons (ev_tup (ea_cons ev_str (ea_cons ev_int (ea_cons (ev_var 0 rfl) (ea_cons (eg_call C_itself (hr.mono (by omega)) (ea_cons (ev_var 2 rfl) ea_nil) ⟨_, rfl, rfl⟩) ea_nil))))) ea_nil))) (ea_cons ev_bl ea_nil))) rfl)))))))
  | th => exact (ew_cons (es_ifF (et_cmp (CmpR.to cm_eqS (by decide +kernel)) (ev_var 1 rfl) ev_str) (ew_nil 
  (ew_cons (es_ifF (et_cmp (CmpR.to cm_eqS (by decide +kernel)) (ev_var 1 rfl) ev_str) (ew_nil 
  (ew_one (es_ret (ev_tup (ea_cons (ev_tup (ea_cons ev_str (ea_cons ev_int (ea_cons (ev_tup (ea_cons ev_str (ea_cons (ev_var 0 rfl) (ea_cons (eg_call C_itself (hr.mono (by omega)) (ea_cons (ev_var 2 rfl) ea_nil) ⟨_, rfl, rfl⟩) ea_nil)))) ea_nil)))) (ea_cons ev_bl ea_nil))) rfl))))))))
/-! ### led_second -/
abbrev st_led_second : Stmt := top 38
theorem sc_led_second : FnScope ["derivation", "word", "kind"] ["derivation", "word", "kind"] (defScope st_led_second) := ⟨rfl, rfl, rfl, by decide +kernel, rfl, by decide +kernel, by decide +kernel⟩
def r_led_second : List PyData → Res → Prop := fun ds r => ∃ (d : Dv) (u : MM.Wd) (k : Kd), ds = [embD d, .str (Wd.nm u), emb k] ∧ r = .dat (.tuple [embD (ledSecond d u k).1, .bool (ledSecond d u k).2])
theorem ok_led_second (G : Mg K mg) (C_itself : Cal P w K mg base 1 "itself" ["word"] (spR K r_itself)) (F : Fun K "led_second" "led_second" st_led_second f fd) : FnOk P w K mg base CX0 2 f fd ["derivation", "word", "kind"] (spR K r_led_second) := by
  refine Fun.okR F sc_led_second r_led_second (by rintro _ _ ⟨_, _, _, rfl, _⟩; rfl) fun cdv A outer s H E hr ds r h => ?_
  have nd := sc_led_second.nd
  obtain ⟨d, u, k, rfl, rfl⟩ := h
  cases u with
  | ov => exact (ew_cons (es_ifT (et_cmp (CmpR.to cm_eqS (by decide +kernel)) (ev_var 1 rfl) ev_str) (ew_one (es_ret (ev_tup (ea_cons (ev_tup (ea_cons ev_str (ea_cons (ev_tup (ea_cons ev_str (ea_cons ev_int (ea_cons (ev_var 0 rfl) (ea_cons (eg_call C_itself (hr.mono (by omega)) (ea_cons (ev_var 2 rfl) ea_nil) ⟨_, rfl, rfl⟩) ea_nil))))) ea_nil))) (ea_cons ev_bl ea_nil))) rfl))))
  | un => exact (ew_cons (es_ifF (et_cmp (CmpR.to cm_eqS (by decide +kernel)) (ev_var 1 rfl) ev_str) (ew_nil 
  (ew_cons (es_ifT (et_cmp (CmpR.to cm_eqS (by decide +kernel)) (ev_var 1 rfl) ev_str) (ew_one (es_ret (ev_tup (ea_cons (ev_tup (ea_cons ev_str (ea_cons (ev_tup (ea_cons ev_str (ea_cons ev_int (ea_cons (eg_call C_itself (hr.mono (by omega)) (ea_cons (ev_var 2 rfl) ea_nil) ⟨_, rfl, rfl⟩) (ea_cons (ev_var 0 rfl) ea_nil))))) ea_nil))) (ea_cons ev_bl ea_nil))) rfl)))))))
  | th => exact (ew_cons (es_ifF (et_cmp (CmpR.to cm_eqS (by decide +kernel)) (ev_var 1 rfl) ev_str) (ew_nil 
  (ew_cons (es_ifF (et_cmp (CmpR.to cm_eqS (by decide +kernel)) (ev_var 1 rfl) ev_str) (ew_nil 
  (ew_one (es_ret (ev_tup (ea_cons (ev_tup (ea_cons ev_str (ea_cons ev_int (ea_cons (ev_tup (ea_cons ev_str (ea_cons (eg_call C_itself (hr.mono (by omega)) (ea_cons (ev_var 2 rfl) ea_nil) ⟨_, rfl, rfl⟩) (ea_cons (ev_var 0 rfl) ea_nil)))) ea_nil)))) (ea_cons ev_bl ea_nil))) rfl))))))))
end
end PU
namespace PU
open PySem PySem.Spec PyProof.Rows L2 StX MM

section
variable {P : Program} {w : World} {K : PySem.W.Frag} {mg : Str → Option Value} {base : Heap} {f : Addr} {fd : FuncData}

/-! ### led -/
abbrev st_led : Stmt := top 39
theorem sc_led : FnScope ["chain", "word", "kind", "side", "found", "way", "derivation", "late", "goes_on"] ["chain", "word", "kind", "side"] (defScope st_led) := ⟨rfl, rfl, rfl, by decide +kernel, rfl, by decide +kernel, by decide +kernel⟩
def r_led : List PyData → Res → Prop := fun ds r => ∃ (c : Chain) (u : MM.Wd) (k : Kd) (side : Bool), ds = [.list (embC c), .str (Wd.nm u), emb k, .int (sideI side)] ∧ c.length ≤ 1000 ∧ r = .fresh (embC (led c u k side))
theorem ok_led (G : Mg K mg) (C_led_first : Cal P w K mg base 2 "led_first" ["derivation", "word", "kind"] (spR K r_led_first)) (C_led_second : Cal P w K mg base 2 "led_second" ["derivation", "word", "kind"] (spR K r_led_second)) (F : Fun K "led" "led" st_led f fd) : FnOk P w K mg base CX0 3 f fd ["chain", "word", "kind", "side"] (spR K r_led) := by
  refine Fun.okR F sc_led r_led (by rintro _ _ ⟨_, _, _, _, rfl, _⟩; rfl) fun cdv A outer s H E hr ds r h => ?_
  have nd := sc_led.nd
  obtain ⟨c, u, k, side, rfl, hlen, rfl⟩ := h
  refine ew_cons (es_set 4 (el_lst ea_nil (small_len rfl)) (ew_cons ?_) (nd := nd))
  refine es_for2 (ds := embC c) 5 6 (fun m δ' n' => ∃ x y z v : Slot, δ' = [.dat (.list (embC c)), .dat (.str (Wd.nm u)), .dat (emb k), .dat (.int (sideI side)), .own (embC (led (c.take m) u k side)), x, y, z, v] ∧ n' = .none ∧ no1 x ∧ no1 y ∧ no1 z ∧ no1 v) (ei_list (ev_var 0 rfl)) ⟨.unk, .unk, .unk, .unk, rfl, rfl, rfl, rfl, rfl, rfl⟩ (fun m dd δ' n' hdm hI => ?_) (fun δ' n' hI => ?_) nd
  · obtain ⟨x, y, z, v, rfl, rfl, hx, hy, hzz, hv⟩ := hI
    obtain ⟨⟨g, d⟩, hz, hzm, rfl⟩ := map_get hdm
    have hl : (c.take m).length ≤ 1000 := by rw [List.length_take]; have := Nat.min_le_right m c.length; omega
    refine ⟨_, _, rfl, .inr ⟨rfl, nl_embD d⟩, ?_⟩
    cases side with
    | false =>
        have hg : ledS u k false (g, d) = (if (ledFirst d u k).2 = true then g else !g, (ledFirst d u k).1) := rfl
        obtain ⟨q1, q2, hq⟩ : ∃ q1 q2, ledFirst d u k = (q1, q2) := ⟨_, _, rfl⟩
        rw [hq] at hg
        rw [take_snoc hz, led_snoc, embC_snoc, hg]
        refine ew_cons (es_unp 7 8 (d1 := embD q1) (d2 := .bool q2) (eg_ifT (et_cmp (CmpR.to cm_eqI rfl) (ev_var 3 rfl) ev_int) (eg_call C_led_first (hr.mono (by omega)) (ea_cons (ev_var 6 rfl) (ea_cons (ev_var 1 rfl) (ea_cons (ev_var 2 rfl) ea_nil))) ⟨d, u, k, rfl, congrArg Res.dat (by rw [hq])⟩)) ?_ (safe := .inr ⟨nl_embD _, rfl⟩) (nd := nd))
        cases q2 with
        | true =>
          cases g with
          | true => exact (ew_one (es_append 4 rfl (d := .tuple [.str "on", embD q1]) (EV.to (ev_tup (ea_cons (eg_ifT (et_val (ev_var 8 rfl)) (ev_var 5 rfl)) (ea_cons (ev_var 7 rfl) ea_nil))) rfl) ⟨.dat (.str "on"), .dat (embD d), .dat (embD q1), .dat (.bool true), rfl, rfl, rfl, rfl, rfl, rfl⟩ (nl_embS (true, q1)) (Nat.lt_of_lt_of_le (by rw [embC_len, led_len]; omega) (le_line (n := 2000) (by decide)))))
          | false => exact (ew_one (es_append 4 rfl (d := .tuple [.str "back", embD q1]) (EV.to (ev_tup (ea_cons (eg_ifT (et_val (ev_var 8 rfl)) (ev_var 5 rfl)) (ea_cons (ev_var 7 rfl) ea_nil))) rfl) ⟨.dat (.str "back"), .dat (embD d), .dat (embD q1), .dat (.bool true), rfl, rfl, rfl, rfl, rfl, rfl⟩ (nl_embS (false, q1)) (Nat.lt_of_lt_of_le (by rw [embC_len, led_len]; omega) (le_line (n := 2000) (by decide)))))
        | false =>
          cases g with
          | true => exact (ew_one (es_append 4 rfl (d := .tuple [.str "back", embD q1]) (EV.to (ev_tup (ea_cons (eg_ifF (et_val (ev_var 8 rfl)) (eg_ifT (et_cmp (CmpR.to cm_eqS (show decide (("on" : Str) = "on") = true by decide +kernel)) (ev_var 5 rfl) ev_str) ev_str)) (ea_cons (ev_var 7 rfl) ea_nil))) rfl) ⟨.dat (.str "on"), .dat (embD d), .dat (embD q1), .dat (.bool false), rfl, rfl, rfl, rfl, rfl, rfl⟩ (nl_embS (false, q1)) (Nat.lt_of_lt_of_le (by rw [embC_len, led_len]; omega) (le_line (n := 2000) (by decide)))))
          | false => exact (ew_one (es_append 4 rfl (d := .tuple [.str "on", embD q1]) (EV.to (ev_tup (ea_cons (eg_ifF (et_val (ev_var 8 rfl)) (eg_ifF (et_cmp (CmpR.to cm_eqS (show decide (("back" : Str) = "on") = false by decide +kernel)) (ev_var 5 rfl) ev_str) ev_str)) (ea_cons (ev_var 7 rfl) ea_nil))) rfl) ⟨.dat (.str "back"), .dat (embD d), .dat (embD q1), .dat (.bool false), rfl, rfl, rfl, rfl, rfl, rfl⟩ (nl_embS (true, q1)) (Nat.lt_of_lt_of_le (by rw [embC_len, led_len]; omega) (le_line (n := 2000) (by decide)))))
    | true =>
        have hg : ledS u k true (g, d) = (if (ledSecond d u k).2 = true then g else !g, (ledSecond d u k).1) := rfl
        obtain ⟨q1, q2, hq⟩ : ∃ q1 q2, ledSecond d u k = (q1, q2) := ⟨_, _, rfl⟩
        rw [hq] at hg
        rw [take_snoc hz, led_snoc, embC_snoc, hg]
        refine ew_cons (es_unp 7 8 (d1 := embD q1) (d2 := .bool q2) (eg_ifF (et_cmp (CmpR.to cm_eqI rfl) (ev_var 3 rfl) ev_int) (eg_call C_led_second (hr.mono (by omega)) (ea_cons (ev_var 6 rfl) (ea_cons (ev_var 1 rfl) (ea_cons (ev_var 2 rfl) ea_nil))) ⟨d, u, k, rfl, congrArg Res.dat (by rw [hq])⟩)) ?_ (safe := .inr ⟨nl_embD _, rfl⟩) (nd := nd))
        cases q2 with
        | true =>
          cases g with
          | true => exact (ew_one (es_append 4 rfl (d := .tuple [.str "on", embD q1]) (EV.to (ev_tup (ea_cons (eg_ifT (et_val (ev_var 8 rfl)) (ev_var 5 rfl)) (ea_cons (ev_var 7 rfl) ea_nil))) rfl) ⟨.dat (.str "on"), .dat (embD d), .dat (embD q1), .dat (.bool true), rfl, rfl, rfl, rfl, rfl, rfl⟩ (nl_embS (true, q1)) (Nat.lt_of_lt_of_le (by rw [embC_len, led_len]; omega) (le_line (n := 2000) (by decide)))))
          | false => exact (ew_one (es_append 4 rfl (d := .tuple [.str "back", embD q1]) (EV.to (ev_tup (ea_cons (eg_ifT (et_val (ev_var 8 rfl)) (ev_var 5 rfl)) (ea_cons (ev_var 7 rfl) ea_nil))) rfl) ⟨.dat (.str "back"), .dat (embD d), .dat (embD q1), .dat (.bool true), rfl, rfl, rfl, rfl, rfl, rfl⟩ (nl_embS (false, q1)) (Nat.lt_of_lt_of_le (by rw [embC_len, led_len]; omega) (le_line (n := 2000) (by decide)))))
        | false =>
          cases g with
          | true => exact (ew_one (es_append 4 rfl (d := .tuple [.str "back", embD q1]) (EV.to (ev_tup (ea_cons (eg_ifF (et_val (ev_var 8 rfl)) (eg_ifT (et_cmp (CmpR.to cm_eqS (show decide (("on" : Str) = "on") = true by decide +kernel)) (ev_var 5 rfl) ev_str) ev_str)) (ea_cons (ev_var 7 rfl) ea_nil))) rfl) ⟨.dat (.str "on"), .dat (embD d), .dat (embD q1), .dat (.bool false), rfl, rfl, rfl, rfl, rfl, rfl⟩ (nl_embS (false, q1)) (Nat.lt_of_lt_of_le (by rw [embC_len, led_len]; omega) (le_line (n := 2000) (by decide)))))
          | false => exact (ew_one (es_append 4 rfl (d := .tuple [.str "on", embD q1]) (EV.to (ev_tup (ea_cons (eg_ifF (et_val (ev_var 8 rfl)) (eg_ifF (et_cmp (CmpR.to cm_eqS (show decide (("back" : Str) = "on") = false by decide +kernel)) (ev_var 5 rfl) ev_str) ev_str)) (ea_cons (ev_var 7 rfl) ea_nil))) rfl) ⟨.dat (.str "back"), .dat (embD d), .dat (embD q1), .dat (.bool false), rfl, rfl, rfl, rfl, rfl, rfl⟩ (nl_embS (true, q1)) (Nat.lt_of_lt_of_le (by rw [embC_len, led_len]; omega) (le_line (n := 2000) (by decide)))))
  · obtain ⟨x, y, z, v, rfl, rfl, hx, hy, hzz, hv⟩ := hI
    rw [show (embC c).length = c.length from embC_len c, List.take_length]
    exact ew_one (es_retOwn 4 rfl rfl)
/-! ### cut_behind -/
abbrev st_cut_behind : Stmt := top 40
theorem sc_cut_behind : FnScope ["chain", "one", "other", "common"] ["chain", "one", "other", "common"] (defScope st_cut_behind) := ⟨rfl, rfl, rfl, by decide +kernel, rfl, by decide +kernel, by decide +kernel⟩
def r_cut_behind : List PyData → Res → Prop := fun ds r => ∃ (c : Chain) (a b k : Kd), ds = [.list (embC c), emb a, emb b, emb k] ∧ c.length ≤ 900 ∧ r = .fresh (embC (cutBehind c a b k))
theorem ok_cut_behind (G : Mg K mg) (C_behind_up : Cal P w K mg base 2 "behind_up" ["one", "other"] (spR K r_behind_up)) (C_led : Cal P w K mg base 3 "led" ["chain", "word", "kind", "side"] (spR K r_led)) (C_turned_chain : Cal P w K mg base 1 "turned_chain" ["chain"] (spR K r_turned_chain)) (F : Fun K "cut_behind" "cut_behind" st_cut_behind f fd) : FnOk P w K mg base CX0 4 f fd ["chain", "one", "other", "common"] (spR K r_cut_behind) := by
  refine Fun.okR F sc_cut_behind r_cut_behind (by rintro _ _ ⟨_, _, _, _, rfl, _⟩; rfl) fun cdv A outer s H E hr ds r h => ?_
  have nd := sc_cut_behind.nd
  obtain ⟨c, a, b, k, rfl, hlen, rfl⟩ := h
  exact (ew_one (es_ret (el_lst (ea_cons (eg_call C_behind_up (hr.mono (by omega)) (ea_cons (ev_var 1 rfl) (ea_cons (ev_var 3 rfl) ea_nil)) ⟨_, _, rfl, rfl⟩) (ea_star (EG.ev (eg_call C_led (hr.mono (by omega)) (ea_cons (ev_var 0 rfl) (ea_cons ev_str (ea_cons (ev_var 3 rfl) (ea_cons ev_int ea_nil)))) ⟨c, .ov, k, false, rfl, by omega, rfl⟩)) (ea_star (EG.ev (eg_call C_turned_chain (hr.mono (by omega)) (ea_cons (EG.ev (el_lst (ea_cons (eg_call C_behind_up (hr.mono (by omega)) (ea_cons (ev_var 2 rfl) (ea_cons (ev_var 3 rfl) ea_nil)) ⟨_, _, rfl, rfl⟩) ea_nil) (small_len rfl))) ea_nil) ⟨[behindUp b k], rfl, (show 1 ≤ 1000 by omega), rfl⟩)) ea_nil))) (le_line (by simp [embC_len, led_len, turned_len] <;> omega))) (congrArg Res.fresh (by show embS _ :: (embC _ ++ (embC _ ++ [])) = _; rw [List.append_nil, ← embC_app] <;> rfl))))
/-! ### cut_ahead -/
abbrev st_cut_ahead : Stmt := top 41
theorem sc_cut_ahead : FnScope ["chain", "one", "other", "common"] ["chain", "one", "other", "common"] (defScope st_cut_ahead) := ⟨rfl, rfl, rfl, by decide +kernel, rfl, by decide +kernel, by decide +kernel⟩
def r_cut_ahead : List PyData → Res → Prop := fun ds r => ∃ (c : Chain) (a b k : Kd), ds = [.list (embC c), emb a, emb b, emb k] ∧ c.length ≤ 900 ∧ r = .fresh (embC (cutAhead c a b k))
theorem ok_cut_ahead (G : Mg K mg) (C_ahead_up : Cal P w K mg base 2 "ahead_up" ["one", "other"] (spR K r_ahead_up)) (C_led : Cal P w K mg base 3 "led" ["chain", "word", "kind", "side"] (spR K r_led)) (C_turned_chain : Cal P w K mg base 1 "turned_chain" ["chain"] (spR K r_turned_chain)) (F : Fun K "cut_ahead" "cut_ahead" st_cut_ahead f fd) : FnOk P w K mg base CX0 4 f fd ["chain", "one", "other", "common"] (spR K r_cut_ahead) := by
  refine Fun.okR F sc_cut_ahead r_cut_ahead (by rintro _ _ ⟨_, _, _, _, rfl, _⟩; rfl) fun cdv A outer s H E hr ds r h => ?_
  have nd := sc_cut_ahead.nd
  obtain ⟨c, a, b, k, rfl, hlen, rfl⟩ := h
  exact (ew_one (es_ret (el_lst (ea_cons (eg_call C_ahead_up (hr.mono (by omega)) (ea_cons (ev_var 1 rfl) (ea_cons (ev_var 3 rfl) ea_nil)) ⟨_, _, rfl, rfl⟩) (ea_star (EG.ev (eg_call C_led (hr.mono (by omega)) (ea_cons (ev_var 0 rfl) (ea_cons ev_str (ea_cons (ev_var 3 rfl) (ea_cons ev_int ea_nil)))) ⟨c, .un, k, true, rfl, by omega, rfl⟩)) (ea_star (EG.ev (eg_call C_turned_chain (hr.mono (by omega)) (ea_cons (EG.ev (el_lst (ea_cons (eg_call C_ahead_up (hr.mono (by omega)) (ea_cons (ev_var 2 rfl) (ea_cons (ev_var 3 rfl) ea_nil)) ⟨_, _, rfl, rfl⟩) ea_nil) (small_len rfl))) ea_nil) ⟨[aheadUp b k], rfl, (show 1 ≤ 1000 by omega), rfl⟩)) ea_nil))) (le_line (by simp [embC_len, led_len, turned_len] <;> omega))) (congrArg Res.fresh (by show embS _ :: (embC _ ++ (embC _ ++ [])) = _; rw [List.append_nil, ← embC_app] <;> rfl))))
end
end PU
namespace PU
open PySem PySem.Spec PyProof.Rows L2 StX MM
section
variable {X : Cx} {δ : PEnv} {e a b c : Expr} {es : List Expr} {pos : Pos} {d x y : PyData} {ds xs ys : List PyData} {k : Bool}
theorem el_catC {c e : Chain} (hl : c.length + e.length ≤ 1000) (ha : EV X a δ (.list (embC c))) (hb : EV X b δ (.list (embC e))) : EL X (.BinOp a .Add b pos) δ (embC (c ++ e)) :=
  EG.cast (eg_bin (br_cat (le_line (by rw [embC_len, embC_len]; omega))) ha hb) (congrArg Res.fresh (embC_app c e).symm)
theorem EG.asC (c : Chain) (h : EL X e δ ds) (he : ds = embC c) : EL X e δ (embC c) := he ▸ h
end
section
variable {X : Cx} {δ : SEnv} {n : Bud} {N : SEnv → Bud → Prop} {R : Res → Bud → Prop} {e a b c : Expr} {pos : Pos} {d1 d2 d3 : PyData}
/-- x, y, z = a, b, c -/
theorem es_par3 {x y z : Str} {px py pz pt pt2 : Pos} {kt k2 : Nat} (i j l : Nat) (ha : EV X a (flat δ) d1) (hb : EV X b (flat δ) d2) (hc3 : EV X c (flat δ) d3) (hN : N (((δ.set i (.dat d1)).set j (.dat d2)).set l (.dat d3)) n) (safe : nl d1 = true ∧ nl d2 = true ∧ nl d3 = true) (nd : X.N.Nodup := by assumption)
    (hi : X.N[i]? = some x := by rfl) (hj : X.N[j]? = some y := by rfl) (hl : X.N[l]? = some z := by rfl) (hij : i ≠ j := by decide) (hil : i ≠ l := by decide) (hjl : j ≠ l := by decide)
    (hx : X.env.scope.names.lookup x = some .local := by rfl) (hy : X.env.scope.names.lookup y = some .local := by rfl) (hz : X.env.scope.names.lookup z = some .local := by rfl)
    (hc : X.calm = true := by rfl) (hw : swappedStores [.Tuple [.Name x px, .Name y py, .Name z pz] kt pt] (.Tuple [a, b, c] k2 pt2) X.env = pure (some [x, y, z]) := by rfl)
    (hs : swapsWithSole [.Tuple [.Name x px, .Name y py, .Name z pz] kt pt] (.Tuple [a, b, c] k2 pt2) pos.line X.env = pure false := by rfl)
    (he1 : starEach [a, b, c] X.env = (false, eval a X.env) :: starEach [b, c] X.env := by rfl) (he2 : starEach [b, c] X.env = (false, eval b X.env) :: starEach [c] X.env := by rfl) (he3 : starEach [c] X.env = (false, eval c X.env) :: starEach [] X.env := by rfl) :
    ES X (.Assign [.Tuple [.Name x px, .Name y py, .Name z pz] kt pt] (.Tuple [a, b, c] k2 pt2) pos) δ n N R := fun p S H0 D σ H A ok pu hn hr => by
  refine sS_of (ps_par3 hc nd hi hj hl hij hil hjl hx hy hz (pa_cons pe_s (pa_cons pe_s (pa_cons pe_s pa_nil he3) he2) he1) hw hs) ?_
  refine ha S σ H _ ok.ok fun v H1 s1 g1 => ?_
  refine hb S σ H1 _ (ok.m s1).ok fun w H2 s2 g2 => ?_
  refine hc3 S σ H2 _ ((ok.m s1).m s2).ok fun u H3 s3 g3 => ?_
  refine ⟨v, w, u, rfl, ?_⟩
  obtain ⟨A', ok'⟩ := ok.put2 s1 s2 g1 g2 (i := i) (j := j) (.inr ⟨safe.1, safe.2.1⟩)
  obtain ⟨A'', ok''⟩ := ok'.put (r := .dat d3) s3 g3 (i := l) (.inr safe.2.2)
  exact hn _ n _ H3 A'' hN ok'' (((pu.m s1).m s2).m s3)
end
theorem unitBehind_len (a b : Kd) : (unitBehind a b).length = 4 := rfl
theorem unitAhead_len (a b : Kd) : (unitAhead a b).length = 7 := rfl
theorem pair_len (x : Lt) (p : Str) : (pairGone x p).length ≤ 15 := by
  have h1 := cnt_pair true x p
  have h2 := cnt_pair false x p
  have h3 := cnt_two (pairGone x p)
  rw [if_pos rfl] at h1
  rw [if_neg (by decide)] at h2
  omega
theorem oneMore_len (l : List Lt) (x : Lt) (p : Str) : (oneMore l x p).length ≤ 20 := by
  have h1 := cnt_oneMore true l x p
  have h2 := cnt_oneMore false l x p
  have h3 := cnt_two (oneMore l x p)
  rw [if_pos rfl] at h1
  rw [if_neg (by decide)] at h2
  omega
theorem twoR_len (one : List Lt) (p : Str) : ∀ t : List Lt, (twoFormsR one p t).length ≤ 21 * t.length + 4
  | [] => Nat.le_refl 4
  | [x] => by
    show (oneMore one x p).length ≤ _
    have := oneMore_len one x p
    rw [List.length_singleton]; omega
  | x :: y :: t => by
    have h := twoR_len one p (y :: t)
    have h2 := oneMore_len (put one (y :: t).reverse) x p
    show ((turned [gath (form one p) (form (y :: t).reverse p) (lk x p)] ++ led (twoFormsR one p (y :: t)) .th (lk x p) false) ++ oneMore (put one (y :: t).reverse) x p).length ≤ _
    rw [List.length_append, List.length_append, turned_len, led_len, List.length_cons (a := x)]
    rw [List.length_singleton]
    omega
theorem two_len (one o : List Lt) (p : Str) : (twoForms one o p).length ≤ 21 * o.length + 4 := by
  have := twoR_len one p o.reverse
  rw [List.length_reverse] at this
  exact this
theorem two_snoc (one o : List Lt) (x : Lt) (p : Str) (h : o ≠ []) : twoForms one (o ++ [x]) p = turned [gath (form one p) (form o p) (lk x p)] ++ led (twoForms one o p) .th (lk x p) false ++ oneMore (put one o) x p := by
  unfold twoForms
  rw [List.reverse_append, List.reverse_singleton, List.singleton_append]
  cases hr : o.reverse with
  | nil => exact absurd (by rw [← List.reverse_reverse o, hr] <;> rfl) h
  | cons y t =>
    have e : o = (y :: t).reverse := by rw [← hr, List.reverse_reverse]
    rw [e]
    rfl
end PU
namespace PU
open PySem PySem.Spec PyProof.Rows L2 StX MM

section
variable {P : Program} {w : World} {K : PySem.W.Frag} {mg : Str → Option Value} {base : Heap} {f : Addr} {fd : FuncData}

/-! ### unit_behind -/
abbrev st_unit_behind : Stmt := top 42
theorem sc_unit_behind : FnScope ["one", "other", "unit", "used", "chain"] ["one", "other"] (defScope st_unit_behind) := ⟨rfl, rfl, rfl, by decide +kernel, rfl, by decide +kernel, by decide +kernel⟩
def r_unit_behind : List PyData → Res → Prop := fun ds r => ∃ a b : Kd, ds = [emb a, emb b] ∧ r = .fresh (embC (unitBehind a b))
theorem ok_unit_behind (G : Mg K mg) (C_itself : Cal P w K mg base 1 "itself" ["word"] (spR K r_itself)) (C_gathered : Cal P w K mg base 2 "gathered" ["one", "other", "third"] (spR K r_gathered)) (C_cut_behind : Cal P w K mg base 4 "cut_behind" ["chain", "one", "other", "common"] (spR K r_cut_behind)) (F : Fun K "unit_behind" "unit_behind" st_unit_behind f fd) : FnOk P w K mg base CX0 5 f fd ["one", "other"] (spR K r_unit_behind) := by
  refine Fun.okR F sc_unit_behind r_unit_behind (by rintro _ _ ⟨_, _, rfl, _⟩; rfl) fun cdv A outer s H E hr ds r h => ?_
  have nd := sc_unit_behind.nd
  obtain ⟨a, b, rfl, rfl⟩ := h
  exact (ew_cons (es_set 2 (ev_tup (ea_cons ev_str (ea_cons (ev_var 1 rfl) (ea_cons (ev_var 1 rfl) ea_nil)))) 
  (ew_cons (es_set 3 (ev_tup (ea_cons ev_str (ea_cons ev_int (ea_cons (ev_tup (ea_cons ev_str (ea_cons ev_int (ea_cons (eg_call C_itself (hr.mono (by omega)) (ea_cons (ev_var 1 rfl) ea_nil) ⟨_, rfl, rfl⟩) (ea_cons (eg_call C_itself (hr.mono (by omega)) (ea_cons (ev_var 1 rfl) ea_nil) ⟨_, rfl, rfl⟩) ea_nil))))) ea_nil)))) 
  (ew_cons (es_set 4 (EG.asC [gath a (.ov b b) b, (true, .tu (.tm (.is a) (unitUsed b)))] (el_lst (ea_cons (eg_call C_gathered (hr.mono (by omega)) (ea_cons (ev_var 0 rfl) (ea_cons (ev_var 2 rfl) (ea_cons (ev_var 1 rfl) ea_nil))) ⟨a, .ov b b, b, rfl, rfl⟩) (ea_cons (ev_tup (ea_cons ev_str (ea_cons (ev_tup (ea_cons ev_str (ea_cons ev_int (ea_cons (ev_tup (ea_cons ev_str (ea_cons (eg_call C_itself (hr.mono (by omega)) (ea_cons (ev_var 0 rfl) ea_nil) ⟨_, rfl, rfl⟩) (ea_cons (ev_var 3 rfl) ea_nil)))) ea_nil)))) ea_nil))) ea_nil)) (small_len rfl)) rfl) 
  (ew_one (es_ret (eg_call C_cut_behind (hr.mono (by omega)) (ea_cons (ev_var 4 rfl) (ea_cons (ev_tup (ea_cons ev_str (ea_cons (ev_var 0 rfl) (ea_cons (ev_var 2 rfl) ea_nil)))) (ea_cons (ev_var 0 rfl) (ea_cons (ev_var 1 rfl) ea_nil)))) ⟨[gath a (.ov b b) b, (true, .tu (.tm (.is a) (unitUsed b)))], .th a (.ov b b), a, b, rfl, (show 2 ≤ 900 by omega), rfl⟩) rfl)) (nd := nd))) (nd := nd))) (nd := nd)))
/-! ### unit_ahead -/
abbrev st_unit_ahead : Stmt := top 43
theorem sc_unit_ahead : FnScope ["one", "other", "unit", "chain"] ["one", "other"] (defScope st_unit_ahead) := ⟨rfl, rfl, rfl, by decide +kernel, rfl, by decide +kernel, by decide +kernel⟩
def r_unit_ahead : List PyData → Res → Prop := fun ds r => ∃ a b : Kd, ds = [emb a, emb b] ∧ r = .fresh (embC (unitAhead a b))
theorem ok_unit_ahead (G : Mg K mg) (C_gathered : Cal P w K mg base 2 "gathered" ["one", "other", "third"] (spR K r_gathered)) (C_turned_chain : Cal P w K mg base 1 "turned_chain" ["chain"] (spR K r_turned_chain)) (C_led : Cal P w K mg base 3 "led" ["chain", "word", "kind", "side"] (spR K r_led)) (C_unit_behind : Cal P w K mg base 5 "unit_behind" ["one", "other"] (spR K r_unit_behind)) (C_cut_ahead : Cal P w K mg base 4 "cut_ahead" ["chain", "one", "other", "common"] (spR K r_cut_ahead)) (F : Fun K "unit_ahead" "unit_ahead" st_unit_ahead f fd) : FnOk P w K mg base CX0 6 f fd ["one", "other"] (spR K r_unit_ahead) := by
  refine Fun.okR F sc_unit_ahead r_unit_ahead (by rintro _ _ ⟨_, _, rfl, _⟩; rfl) fun cdv A outer s H E hr ds r h => ?_
  have nd := sc_unit_ahead.nd
  obtain ⟨a, b, rfl, rfl⟩ := h
  exact (ew_cons (es_set 2 (ev_tup (ea_cons ev_str (ea_cons (ev_var 1 rfl) (ea_cons (ev_var 1 rfl) ea_nil)))) 
  (ew_cons (es_set 3 (el_catC (by simp only [List.length_append, List.length_cons, List.length_nil, led_len, turned_len, unitBehind_len, unitAhead_len] <;> omega) (EG.ev (eg_call C_turned_chain (hr.mono (by omega)) (ea_cons (EG.ev (el_lst (ea_cons (eg_call C_gathered (hr.mono (by omega)) (ea_cons (ev_var 1 rfl) (ea_cons (ev_var 2 rfl) (ea_cons (ev_var 0 rfl) ea_nil))) ⟨b, .ov b b, a, rfl, rfl⟩) ea_nil) (small_len rfl))) ea_nil) ⟨[gath b (.ov b b) a], rfl, (show 1 ≤ 1000 by omega), rfl⟩)) (EG.ev (eg_call C_led (hr.mono (by omega)) (ea_cons (EG.ev (eg_call C_unit_behind (hr.mono (by omega)) (ea_cons (ev_var 1 rfl) (ea_cons (ev_var 1 rfl) ea_nil)) ⟨b, b, rfl, rfl⟩)) (ea_cons ev_str (ea_cons (ev_var 0 rfl) (ea_cons ev_int ea_nil)))) ⟨unitBehind b b, .th, a, false, rfl, (show 4 ≤ 1000 by omega), rfl⟩))) 
  (ew_one (es_ret (eg_call C_cut_ahead (hr.mono (by omega)) (ea_cons (ev_var 3 rfl) (ea_cons (ev_tup (ea_cons ev_str (ea_cons (ev_var 2 rfl) (ea_cons (ev_var 0 rfl) ea_nil)))) (ea_cons (ev_var 0 rfl) (ea_cons (ev_var 1 rfl) ea_nil)))) ⟨turned [gath b (.ov b b) a] ++ led (unitBehind b b) .th a false, .th (.ov b b) a, a, b, rfl, (show 5 ≤ 900 by omega), rfl⟩) rfl)) (nd := nd))) (nd := nd)))
/-! ### pair_gone -/
abbrev st_pair_gone : Stmt := top 44
theorem sc_pair_gone : FnScope ["letter", "plain", "word", "sign", "one", "other", "unit", "used", "chain"] ["letter", "plain"] (defScope st_pair_gone) := ⟨rfl, rfl, rfl, by decide +kernel, rfl, by decide +kernel, by decide +kernel⟩
def r_pair_gone : List PyData → Res → Prop := fun ds r => ∃ (x : Lt) (p : Str), ds = [embT x, .str p] ∧ r = .fresh (embC (pairGone x p))
theorem ok_pair_gone (G : Mg K mg) (C_letter_kind : Cal P w K mg base 1 "letter_kind" ["letter", "plain"] (spR K r_letter_kind)) (C_itself : Cal P w K mg base 1 "itself" ["word"] (spR K r_itself)) (C_gathered : Cal P w K mg base 2 "gathered" ["one", "other", "third"] (spR K r_gathered)) (C_unit_behind : Cal P w K mg base 5 "unit_behind" ["one", "other"] (spR K r_unit_behind)) (C_turned_chain : Cal P w K mg base 1 "turned_chain" ["chain"] (spR K r_turned_chain)) (C_unit_ahead : Cal P w K mg base 6 "unit_ahead" ["one", "other"] (spR K r_unit_ahead)) (C_cut_behind : Cal P w K mg base 4 "cut_behind" ["chain", "one", "other", "common"] (spR K r_cut_behind)) (F : Fun K "pair_gone" "pair_gone" st_pair_gone f fd) : FnOk P w K mg base CX0 7 f fd ["letter", "plain"] (spR K r_pair_gone) := by
  refine Fun.okR F sc_pair_gone r_pair_gone (by rintro _ _ ⟨_, _, rfl, _⟩; rfl) fun cdv A outer s H E hr ds r h => ?_
  have nd := sc_pair_gone.nd
  obtain ⟨⟨z, sg⟩, p, rfl, rfl⟩ := h
  cases sg with
  | true => exact (ew_cons (es_unp 2 3 (ev_var 0 rfl) 
  (ew_cons (es_par 4 5 (eg_call C_letter_kind (hr.mono (by omega)) (ea_cons (ev_var 0 rfl) (ea_cons (ev_var 1 rfl) ea_nil)) ⟨(z, true), p, rfl, rfl⟩) (eg_call C_letter_kind (hr.mono (by omega)) (ea_cons (ev_tup (ea_cons (ev_var 2 rfl) (ea_cons (ev_neg (ev_var 3 rfl)) ea_nil))) (ea_cons (ev_var 1 rfl) ea_nil)) ⟨iv (z, true), p, rfl, rfl⟩) 
  (ew_cons (es_set 6 (ev_tup (ea_cons ev_str (ea_cons (ev_var 1 rfl) (ea_cons (ev_var 1 rfl) ea_nil)))) 
  (ew_cons (es_ifF (et_cmp (CmpR.to cm_eqI rfl) (ev_var 3 rfl) (ev_neg ev_int)) (ew_nil 
  (ew_cons (es_set 7 (ev_tup (ea_cons ev_str (ea_cons ev_int (ea_cons (ev_tup (ea_cons ev_str (ea_cons ev_int (ea_cons (eg_call C_itself (hr.mono (by omega)) (ea_cons (ev_var 2 rfl) ea_nil) ⟨.pl z, rfl, rfl⟩) (ea_cons (eg_call C_itself (hr.mono (by omega)) (ea_cons (ev_var 6 rfl) ea_nil) ⟨unitK p, rfl, rfl⟩) ea_nil))))) ea_nil)))) 
  (ew_cons (es_set 8 (EG.asC [gath (lk (z, true) p) (lk (iv (z, true)) p) (lk (z, true) p), (true, .tu (.tm (.is (lk (z, true) p)) (pairUsed z p)))] (el_lst (ea_cons (eg_call C_gathered (hr.mono (by omega)) (ea_cons (ev_var 4 rfl) (ea_cons (ev_var 5 rfl) (ea_cons (ev_var 4 rfl) ea_nil))) ⟨lk (z, true) p, lk (iv (z, true)) p, lk (z, true) p, rfl, rfl⟩) (ea_cons (ev_tup (ea_cons ev_str (ea_cons (ev_tup (ea_cons ev_str (ea_cons ev_int (ea_cons (ev_tup (ea_cons ev_str (ea_cons (eg_call C_itself (hr.mono (by omega)) (ea_cons (ev_var 4 rfl) ea_nil) ⟨lk (z, true) p, rfl, rfl⟩) (ea_cons (ev_var 7 rfl) ea_nil)))) ea_nil)))) ea_nil))) ea_nil)) (small_len rfl)) rfl) 
  (ew_cons (es_set 8 (el_catC (by simp only [List.length_append, List.length_cons, List.length_nil, led_len, turned_len, unitBehind_len, unitAhead_len] <;> omega) (EG.ev (el_catC (by simp only [List.length_append, List.length_cons, List.length_nil, led_len, turned_len, unitBehind_len, unitAhead_len] <;> omega) (ev_var 8 rfl) (EG.ev (eg_call C_unit_behind (hr.mono (by omega)) (ea_cons (ev_var 4 rfl) (ea_cons (ev_var 1 rfl) ea_nil)) ⟨lk (z, true) p, .pl p, rfl, rfl⟩)))) (EG.ev (eg_call C_turned_chain (hr.mono (by omega)) (ea_cons (EG.ev (eg_call C_unit_ahead (hr.mono (by omega)) (ea_cons (ev_var 4 rfl) (ea_cons (ev_var 1 rfl) ea_nil)) ⟨lk (z, true) p, .pl p, rfl, rfl⟩)) ea_nil) ⟨unitAhead (lk (z, true) p) (.pl p), rfl, (show 7 ≤ 1000 by omega), rfl⟩))) 
  (ew_one (es_ret (eg_call C_cut_behind (hr.mono (by omega)) (ea_cons (ev_var 8 rfl) (ea_cons (ev_tup (ea_cons ev_str (ea_cons (ev_var 4 rfl) (ea_cons (ev_var 5 rfl) ea_nil)))) (ea_cons (ev_var 6 rfl) (ea_cons (ev_var 4 rfl) ea_nil)))) ⟨[gath (lk (z, true) p) (lk (iv (z, true)) p) (lk (z, true) p), (true, .tu (.tm (.is (lk (z, true) p)) (pairUsed z p)))] ++ unitBehind (lk (z, true) p) (.pl p) ++ turned (unitAhead (lk (z, true) p) (.pl p)), .th (lk (z, true) p) (lk (iv (z, true)) p), unitK p, lk (z, true) p, rfl, (show 13 ≤ 900 by omega), rfl⟩) rfl)) (nd := nd))) (nd := nd))) (nd := nd)))))) (nd := nd))) (nd := nd))) (nd := nd)))
  | false => exact (ew_cons (es_unp 2 3 (ev_var 0 rfl) 
  (ew_cons (es_par 4 5 (eg_call C_letter_kind (hr.mono (by omega)) (ea_cons (ev_var 0 rfl) (ea_cons (ev_var 1 rfl) ea_nil)) ⟨(z, false), p, rfl, rfl⟩) (eg_call C_letter_kind (hr.mono (by omega)) (ea_cons (ev_tup (ea_cons (ev_var 2 rfl) (ea_cons (ev_neg (ev_var 3 rfl)) ea_nil))) (ea_cons (ev_var 1 rfl) ea_nil)) ⟨iv (z, false), p, rfl, rfl⟩) 
  (ew_cons (es_set 6 (ev_tup (ea_cons ev_str (ea_cons (ev_var 1 rfl) (ea_cons (ev_var 1 rfl) ea_nil)))) 
  (ew_cons (es_ifT (et_cmp (CmpR.to cm_eqI rfl) (ev_var 3 rfl) (ev_neg ev_int)) (ew_one (es_ret (el_lst (ea_cons (ev_tup (ea_cons ev_str (ea_cons (ev_tup (ea_cons ev_str (ea_cons ev_int (ea_cons (ev_tup (ea_cons ev_str (ea_cons ev_int (ea_cons (eg_call C_itself (hr.mono (by omega)) (ea_cons (ev_var 2 rfl) ea_nil) ⟨.pl z, rfl, rfl⟩) (ea_cons (eg_call C_itself (hr.mono (by omega)) (ea_cons (ev_var 6 rfl) ea_nil) ⟨unitK p, rfl, rfl⟩) ea_nil))))) ea_nil)))) ea_nil))) ea_nil) (small_len rfl)) rfl)))) (nd := nd))) (nd := nd))) (nd := nd)))
end
end PU
namespace PU
open PySem PySem.Spec PyProof.Rows L2 StX MM

theorem oneMore_ne {l : List Lt} {x y : Lt} {p : Str} (h : y ≠ iv x) : oneMore (l ++ [y]) x p = [] := by
  unfold oneMore
  rw [if_neg (by simp), if_pos (by rw [List.getLast?_concat]; exact fun e => h (Option.some.inj e))]
theorem oneMore_one (x : Lt) (p : Str) : oneMore [iv x] x p = pairGone (iv x) p := by
  unfold oneMore
  rw [if_neg (by simp), if_neg (by simp), if_pos (by simp)] <;> rfl
theorem oneMore_snoc {l : List Lt} {x : Lt} {p : Str} (h : l ≠ []) : oneMore (l ++ [iv x]) x p = [gath (form l p) (lk (iv x) p) (lk x p)] ++ led (pairGone (iv x) p) .th (form l p) true ++ unitBehind (form l p) (.pl p) := by
  have hl := List.length_pos_iff.mpr h
  unfold oneMore
  rw [if_neg (by simp), if_neg (by rw [List.getLast?_concat]; simp), if_neg (by rw [List.length_append, List.length_singleton]; omega), List.dropLast_concat, List.getLastD_concat]
theorem cutB_len (c : Chain) (a b k : Kd) : (cutBehind c a b k).length = c.length + 2 := by unfold cutBehind; simp [led_len, turned_len]
theorem cutA_len (c : Chain) (a b k : Kd) : (cutAhead c a b k).length = c.length + 2 := by unfold cutAhead; simp [led_len, turned_len]

section
variable {P : Program} {w : World} {K : PySem.W.Frag} {mg : Str → Option Value} {base : Heap} {f : Addr} {fd : FuncData}

/-! ### one_more -/
abbrev st_one_more : Stmt := top 45
theorem sc_one_more : FnScope ["letters", "letter", "plain", "last", "head", "chain"] ["letters", "letter", "plain"] (defScope st_one_more) := ⟨rfl, rfl, rfl, by decide +kernel, rfl, by decide +kernel, by decide +kernel⟩
def r_one_more : List PyData → Res → Prop := fun ds r => ∃ (l : List Lt) (x : Lt) (p : Str), ds = [.list (embL l), embT x, .str p] ∧ (∀ y ∈ l, okw y.1 = true) ∧ okw x.1 = true ∧ l.length ≤ 950 ∧ r = .fresh (embC (oneMore l x p))
theorem ok_one_more (G : Mg K mg) (C_letter_kind : Cal P w K mg base 1 "letter_kind" ["letter", "plain"] (spR K r_letter_kind)) (C_unit_ahead : Cal P w K mg base 6 "unit_ahead" ["one", "other"] (spR K r_unit_ahead)) (C_pair_gone : Cal P w K mg base 7 "pair_gone" ["letter", "plain"] (spR K r_pair_gone)) (C_form_in : Cal P w K mg base 2 "form_in" ["letters", "plain"] (spR K r_form_in)) (C_gathered : Cal P w K mg base 2 "gathered" ["one", "other", "third"] (spR K r_gathered)) (C_led : Cal P w K mg base 3 "led" ["chain", "word", "kind", "side"] (spR K r_led)) (C_unit_behind : Cal P w K mg base 5 "unit_behind" ["one", "other"] (spR K r_unit_behind)) (F : Fun K "one_more" "one_more" st_one_more f fd) : FnOk P w K mg base CX0 8 f fd ["letters", "letter", "plain"] (spR K r_one_more) := by
  refine Fun.okR F sc_one_more r_one_more (by rintro _ _ ⟨_, _, _, rfl, _⟩; rfl) fun cdv A outer s H E hr ds r h => ?_
  have nd := sc_one_more.nd
  obtain ⟨l, x, p, rfl, hl, hx, hlen, rfl⟩ := h
  rcases List.eq_nil_or_concat l with rfl | ⟨l, y, rfl⟩
  · exact (ew_cons (es_set 3 (eg_call C_letter_kind (hr.mono (by omega)) (ea_cons (ev_var 1 rfl) (ea_cons (ev_var 2 rfl) ea_nil)) ⟨x, p, rfl, rfl⟩) 
  (ew_cons (es_ifT (et_cmp (CmpR.to (cm_eqNil hr.units (lay_embL hl)) rfl) (ev_var 0 rfl) (EG.ev (el_lst ea_nil (small_len rfl)))) (ew_one (es_ret (eg_call C_unit_ahead (hr.mono (by omega)) (ea_cons (ev_var 3 rfl) (ea_cons (ev_var 2 rfl) ea_nil)) ⟨lk x p, .pl p, rfl, rfl⟩) rfl)))) (nd := nd)))
  · rw [List.concat_eq_append] at *
    have hy := hl y (List.mem_append_right _ List.mem_cons_self)
    by_cases e : y = iv x
    · subst e
      cases l with
      | nil =>
        rw [List.nil_append] at *
        rw [oneMore_one]
        exact (ew_cons (es_set 3 (eg_call C_letter_kind (hr.mono (by omega)) (ea_cons (ev_var 1 rfl) (ea_cons (ev_var 2 rfl) ea_nil)) ⟨x, p, rfl, rfl⟩) 
  (ew_cons (es_ifF (et_cmp (CmpR.to (cm_eqNil hr.units (lay_embL hl)) rfl) (ev_var 0 rfl) (EG.ev (el_lst ea_nil (small_len rfl)))) (ew_nil 
  (ew_cons (es_ifF (et_cmp (CmpR.to (cm_ne hr.units (lay_embT hy) (lay_embT (x := iv x) hx) (by rw [dep_embT]; omega)) (by rw [eqv_embT, decide_eq_true rfl] <;> rfl)) (ev_ix (ev_var 0 rfl) (ev_neg ev_int) (ix_lastT [] _)) (EV.to (ev_tup (ea_cons (ev_ix (ev_var 1 rfl) ev_int rfl) (ea_cons (ev_neg (ev_ix (ev_var 1 rfl) ev_int rfl)) ea_nil))) (by rw [sgn_neg] <;> rfl))) (ew_nil 
  (ew_cons (es_ifT (et_cmp (CmpR.to cm_eqI rfl) (eg_callB (cr_len rfl) (ea_cons (ev_var 0 rfl) ea_nil) G.len boot_len) ev_int) (ew_one (es_ret (eg_call C_pair_gone (hr.mono (by omega)) (ea_cons (ev_ix (ev_var 0 rfl) ev_int rfl) (ea_cons (ev_var 2 rfl) ea_nil)) ⟨iv x, p, rfl, rfl⟩) rfl)))))))))) (nd := nd)))
      | cons q l =>
        generalize hq : q :: l = m at *
        have hm : m ≠ [] := by rw [← hq]; simp
        have hm0 := List.length_pos_iff.mpr hm
        clear hq
        rw [oneMore_snoc hm]
        exact (ew_cons (es_set 3 (eg_call C_letter_kind (hr.mono (by omega)) (ea_cons (ev_var 1 rfl) (ea_cons (ev_var 2 rfl) ea_nil)) ⟨x, p, rfl, rfl⟩) 
  (ew_cons (es_ifF (et_cmp (CmpR.to (cm_eqNil hr.units (lay_embL hl)) (by rw [embL_snoc, isE_app] <;> rfl)) (ev_var 0 rfl) (EG.ev (el_lst ea_nil (small_len rfl)))) (ew_nil 
  (ew_cons (es_ifF (et_cmp (CmpR.to (cm_ne hr.units (lay_embT hy) (lay_embT (x := iv x) hx) (by rw [dep_embT]; omega)) (by rw [eqv_embT, decide_eq_true rfl] <;> rfl)) (ev_ix (ev_var 0 rfl) (ev_neg ev_int) (ix_lastT _ _)) (EV.to (ev_tup (ea_cons (ev_ix (ev_var 1 rfl) ev_int rfl) (ea_cons (ev_neg (ev_ix (ev_var 1 rfl) ev_int rfl)) ea_nil))) (by rw [sgn_neg] <;> rfl))) (ew_nil 
  (ew_cons (es_ifF (et_cmp (CmpR.to cm_eqI (decide_eq_false (by rw [embL_len, List.length_append, List.length_singleton]; omega))) (eg_callB (cr_len rfl) (ea_cons (ev_var 0 rfl) ea_nil) G.len boot_len) ev_int) (ew_nil 
  (ew_cons (es_set 4 (eg_call C_form_in (hr.mono (by omega)) (ea_cons (EG.ev (el_slice (ev_var 0 rfl) eo_none (eo_some (ev_neg ev_int)) (by rw [embL_snoc]; exact cut_init _ _))) (ea_cons (ev_var 2 rfl) ea_nil)) ⟨m, p, rfl, fun x hx => hl x (List.mem_append_left _ hx), by rw [List.length_append] at hlen; omega, rfl⟩) 
  (ew_cons (es_set 5 (EG.asC [gath (form m p) (lk (iv x) p) (lk x p)] (el_lst (ea_cons (eg_call C_gathered (hr.mono (by omega)) (ea_cons (ev_var 4 rfl) (ea_cons (eg_call C_letter_kind (hr.mono (by omega)) (ea_cons (ev_ix (ev_var 0 rfl) (ev_neg ev_int) (ix_lastT _ _)) (ea_cons (ev_var 2 rfl) ea_nil)) ⟨iv x, p, rfl, rfl⟩) (ea_cons (ev_var 3 rfl) ea_nil))) ⟨form m p, lk (iv x) p, lk x p, rfl, rfl⟩) ea_nil) (small_len rfl)) rfl) 
  (ew_one (es_ret (el_catC (by have := pair_len (iv x) p; simp only [List.length_append, List.length_cons, List.length_nil, led_len, turned_len, unitBehind_len, unitAhead_len, cutB_len, cutA_len] <;> omega) (EG.ev (el_catC (by have := pair_len (iv x) p; simp only [List.length_append, List.length_cons, List.length_nil, led_len, turned_len, unitBehind_len, unitAhead_len, cutB_len, cutA_len] <;> omega) (ev_var 5 rfl) (EG.ev (eg_call C_led (hr.mono (by omega)) (ea_cons (EG.ev (eg_call C_pair_gone (hr.mono (by omega)) (ea_cons (ev_ix (ev_var 0 rfl) (ev_neg ev_int) (ix_lastT _ _)) (ea_cons (ev_var 2 rfl) ea_nil)) ⟨iv x, p, rfl, rfl⟩)) (ea_cons ev_str (ea_cons (ev_var 4 rfl) (ea_cons ev_int ea_nil)))) ⟨pairGone (iv x) p, .th, form m p, true, rfl, by have := pair_len (iv x) p; omega, rfl⟩)))) (EG.ev (eg_call C_unit_behind (hr.mono (by omega)) (ea_cons (ev_var 4 rfl) (ea_cons (ev_var 2 rfl) ea_nil)) ⟨form m p, .pl p, rfl, rfl⟩))) rfl)) (nd := nd))) (nd := nd)))))))))))) (nd := nd)))
    · rw [oneMore_ne e]
      exact (ew_cons (es_set 3 (eg_call C_letter_kind (hr.mono (by omega)) (ea_cons (ev_var 1 rfl) (ea_cons (ev_var 2 rfl) ea_nil)) ⟨x, p, rfl, rfl⟩) 
  (ew_cons (es_ifF (et_cmp (CmpR.to (cm_eqNil hr.units (lay_embL hl)) (by rw [embL_snoc, isE_app] <;> rfl)) (ev_var 0 rfl) (EG.ev (el_lst ea_nil (small_len rfl)))) (ew_nil 
  (ew_cons (es_ifT (et_cmp (CmpR.to (cm_ne hr.units (lay_embT hy) (lay_embT (x := iv x) hx) (by rw [dep_embT]; omega)) (by rw [eqv_embT, decide_eq_false e] <;> rfl)) (ev_ix (ev_var 0 rfl) (ev_neg ev_int) (ix_lastT _ _)) (EV.to (ev_tup (ea_cons (ev_ix (ev_var 1 rfl) ev_int rfl) (ea_cons (ev_neg (ev_ix (ev_var 1 rfl) ev_int rfl)) ea_nil))) (by rw [sgn_neg] <;> rfl))) (ew_one (es_ret (el_lst ea_nil (small_len rfl)) rfl))))))) (nd := nd)))
/-! ### two_forms -/
abbrev st_two_forms : Stmt := top 46
theorem sc_two_forms : FnScope ["one", "other", "plain", "last", "chain"] ["one", "other", "plain"] (defScope st_two_forms) := ⟨rfl, rfl, rfl, by decide +kernel, rfl, by decide +kernel, by decide +kernel⟩
def r_two_forms (n : Nat) : List PyData → Res → Prop := fun ds r => ∃ (one o : List Lt) (p : Str), ds = [.list (embL one), .list (embL o), .str p] ∧ (∀ y ∈ one, okw y.1 = true) ∧ (∀ y ∈ o, okw y.1 = true) ∧ one.length + o.length ≤ 900 ∧ o.length ≤ n ∧ r = .fresh (embC (twoForms one o p))
theorem ok_two_forms (G : Mg K mg) (C_letter_kind : Cal P w K mg base 1 "letter_kind" ["letter", "plain"] (spR K r_letter_kind)) (C_form_in : Cal P w K mg base 2 "form_in" ["letters", "plain"] (spR K r_form_in)) (C_gathered : Cal P w K mg base 2 "gathered" ["one", "other", "third"] (spR K r_gathered)) (C_led : Cal P w K mg base 3 "led" ["chain", "word", "kind", "side"] (spR K r_led)) (C_unit_behind : Cal P w K mg base 5 "unit_behind" ["one", "other"] (spR K r_unit_behind)) (C_turned_chain : Cal P w K mg base 1 "turned_chain" ["chain"] (spR K r_turned_chain)) (C_put_behind : Cal P w K mg base 1 "put_behind" ["one", "other"] (spR K r_put_behind)) (C_one_more : Cal P w K mg base 8 "one_more" ["letters", "letter", "plain"] (spR K r_one_more)) (F : Fun K "two_forms" "two_forms" st_two_forms f fd) (bF : Binds K fd ["one", "other", "plain"] []) (mF : mg "two_forms" = some (.ref f)) :
    ∀ n : Nat, n ≤ 10 → FnOk P w K mg base CX0 (n + 9) f fd ["one", "other", "plain"] (spR K (r_two_forms n)) := by
  have key : ∀ n : Nat, n ≤ 10 → (∀ m, n = m + 1 → Cal P w K mg base (m + 9) "two_forms" ["one", "other", "plain"] (spR K (r_two_forms m))) → FnOk P w K mg base CX0 (n + 9) f fd ["one", "other", "plain"] (spR K (r_two_forms n)) := by
    intro n h10 ih
    refine Fun.okR F sc_two_forms (r_two_forms n) (by rintro _ _ ⟨_, _, _, rfl, _⟩; rfl) fun cdv A outer s H E hr ds r h => ?_
    have nd := sc_two_forms.nd
    obtain ⟨one, o, p, rfl, h1, ho, hlen, hn, rfl⟩ := h
    rcases List.eq_nil_or_concat o with rfl | ⟨o, x, rfl⟩
    · exact (ew_cons (es_ifT (et_cmp (CmpR.to (cm_eqNil hr.units (lay_embL ho)) rfl) (ev_var 1 rfl) (EG.ev (el_lst ea_nil (small_len rfl)))) (ew_one (es_ret (eg_call C_unit_behind (hr.mono (by omega)) (ea_cons (eg_call C_form_in (hr.mono (by omega)) (ea_cons (ev_var 0 rfl) (ea_cons (ev_var 2 rfl) ea_nil)) ⟨one, p, rfl, h1, by omega, rfl⟩) (ea_cons (ev_var 2 rfl) ea_nil)) ⟨form one p, .pl p, rfl, rfl⟩) rfl))))
    · rw [List.concat_eq_append] at *
      have hx := ho x (List.mem_append_right _ List.mem_cons_self)
      have ho1 : ∀ y ∈ o, okw y.1 = true := fun y hy => ho y (List.mem_append_left _ hy)
      rw [List.length_append, List.length_singleton] at hlen hn
      by_cases e : o = []
      · subst e
        rw [List.nil_append] at *
        exact (ew_cons (es_ifF (et_cmp (CmpR.to (cm_eqNil hr.units (lay_embL ho)) rfl) (ev_var 1 rfl) (EG.ev (el_lst ea_nil (small_len rfl)))) (ew_nil 
  (ew_cons (es_ifT (et_cmp (CmpR.to cm_eqI rfl) (eg_callB (cr_len rfl) (ea_cons (ev_var 1 rfl) ea_nil) G.len boot_len) ev_int) (ew_one (es_ret (eg_call C_one_more (hr.mono (by omega)) (ea_cons (ev_var 0 rfl) (ea_cons (ev_ix (ev_var 1 rfl) ev_int rfl) (ea_cons (ev_var 2 rfl) ea_nil))) ⟨one, x, p, rfl, h1, hx, by omega, rfl⟩) rfl)))))))
      · have he0 := List.length_pos_iff.mpr e
        rw [two_snoc _ _ _ _ e]
        cases n with
        | zero => omega
        | succ m =>
          have C_two_forms := ih m rfl
          exact (ew_cons (es_ifF (et_cmp (CmpR.to (cm_eqNil hr.units (lay_embL ho)) (by rw [embL_snoc, isE_app] <;> rfl)) (ev_var 1 rfl) (EG.ev (el_lst ea_nil (small_len rfl)))) (ew_nil 
  (ew_cons (es_ifF (et_cmp (CmpR.to cm_eqI (decide_eq_false (by rw [embL_len, List.length_append, List.length_singleton]; omega))) (eg_callB (cr_len rfl) (ea_cons (ev_var 1 rfl) ea_nil) G.len boot_len) ev_int) (ew_nil 
  (ew_cons (es_set 3 (eg_call C_letter_kind (hr.mono (by omega)) (ea_cons (ev_ix (ev_var 1 rfl) (ev_neg ev_int) (ix_lastT _ _)) (ea_cons (ev_var 2 rfl) ea_nil)) ⟨x, p, rfl, rfl⟩) 
  (ew_cons (es_set 4 (eg_call C_turned_chain (hr.mono (by omega)) (ea_cons (EG.ev (EG.asC [gath (form one p) (form o p) (lk x p)] (el_lst (ea_cons (eg_call C_gathered (hr.mono (by omega)) (ea_cons (eg_call C_form_in (hr.mono (by omega)) (ea_cons (ev_var 0 rfl) (ea_cons (ev_var 2 rfl) ea_nil)) ⟨one, p, rfl, h1, by omega, rfl⟩) (ea_cons (eg_call C_form_in (hr.mono (by omega)) (ea_cons (EG.ev (el_slice (ev_var 1 rfl) eo_none (eo_some (ev_neg ev_int)) (by rw [embL_snoc]; exact cut_init _ _))) (ea_cons (ev_var 2 rfl) ea_nil)) ⟨o, p, rfl, ho1, by omega, rfl⟩) (ea_cons (ev_var 3 rfl) ea_nil))) ⟨form one p, form o p, lk x p, rfl, rfl⟩) ea_nil) (small_len rfl)) rfl)) ea_nil) ⟨[gath (form one p) (form o p) (lk x p)], rfl, (show 1 ≤ 1000 by omega), rfl⟩) 
  (ew_cons (es_set 4 (el_catC (by have := two_len one o p; have := oneMore_len (put one o) x p; simp only [List.length_append, List.length_cons, List.length_nil, led_len, turned_len, unitBehind_len, unitAhead_len, cutB_len, cutA_len] <;> omega) (ev_var 4 rfl) (EG.ev (eg_call C_led (hr.mono (by omega)) (ea_cons (EG.ev (eg_call C_two_forms (hr.mono (by omega)) (ea_cons (ev_var 0 rfl) (ea_cons (EG.ev (el_slice (ev_var 1 rfl) eo_none (eo_some (ev_neg ev_int)) (by rw [embL_snoc]; exact cut_init _ _))) (ea_cons (ev_var 2 rfl) ea_nil))) ⟨one, o, p, rfl, h1, ho1, by omega, by omega, rfl⟩)) (ea_cons ev_str (ea_cons (ev_var 3 rfl) (ea_cons ev_int ea_nil)))) ⟨twoForms one o p, .th, lk x p, false, rfl, by have := two_len one o p; omega, rfl⟩))) 
  (ew_one (es_ret (el_catC (by have := two_len one o p; have := oneMore_len (put one o) x p; simp only [List.length_append, List.length_cons, List.length_nil, led_len, turned_len, unitBehind_len, unitAhead_len, cutB_len, cutA_len] <;> omega) (ev_var 4 rfl) (EG.ev (eg_call C_one_more (hr.mono (by omega)) (ea_cons (EG.ev (eg_call C_put_behind (hr.mono (by omega)) (ea_cons (ev_var 0 rfl) (ea_cons (EG.ev (el_slice (ev_var 1 rfl) eo_none (eo_some (ev_neg ev_int)) (by rw [embL_snoc]; exact cut_init _ _))) ea_nil)) ⟨one, o, rfl, h1, ho1, by omega, rfl⟩)) (ea_cons (ev_ix (ev_var 1 rfl) (ev_neg ev_int) (ix_lastT _ _)) (ea_cons (ev_var 2 rfl) ea_nil))) ⟨put one o, x, p, rfl, fun y hy => (put_mem _ _ _ hy).elim (h1 y) (ho1 y), hx, by have := put_len o one; omega, rfl⟩))) rfl)) (safe := .inr (nl_embC _)) (nd := nd))) (nd := nd))) (nd := nd)))))))))
  intro n
  induction n with
  | zero => exact fun h => key 0 h fun m e => by cases e
  | succ n ih => exact fun h => key (n + 1) h fun m e => by cases e; exact cal_of mF F.kp bF (ih (by omega))
end
end PU
namespace PU
open PySem PySem.Spec PyProof.Rows L2 StX MM

theorem EW.nrm {X : Cx} {sts : List Stmt} {δ' : SEnv} {n : Bud} {N : SEnv → Bud → Prop} {R : Res → Bud → Prop} (δ : SEnv) (e : δ' = δ) (h : EW X sts δ n N R) : EW X sts δ' n N R := e ▸ h
theorem fL {l l' : List Lt} (h : l = l') : Res.fresh (embL l') = .fresh (embL l) := by rw [h]
theorem fC {l l' : Chain} (h : l = l') : Res.fresh (embC l') = .fresh (embC l) := by rw [h]
theorem dK {l l' : Kd} (h : l = l') : Res.dat (emb l') = .dat (emb l) := by rw [h]
theorem toForm_th (p : Str) (a b : Kd) : toForm p (.th a b) = led (toForm p a) .th b false ++ led (toForm p b) .th (form (lets a) p) true ++ twoForms (lets a) (lets b) p := rfl
theorem toForm_ov (p : Str) (a b : Kd) : toForm p (.ov a b) = led (toForm p a) .ov b false ++ led (toForm p b) .ov (form (lets a) p) true ++
    cutBehind ([(true, Dv.tu (.ou (.is (form (lets b) p)) (.is (form (lets a) p))))] ++ turned (twoForms (lets (Kd.ov a b)) (lets b) p)) (.ov (form (lets a) p) (form (lets b) p)) (form (lets (Kd.ov a b)) p) (form (lets b) p) := rfl
theorem toForm_un (p : Str) (a b : Kd) : toForm p (.un a b) = led (toForm p a) .un b false ++ led (toForm p b) .un (form (lets a) p) true ++
    cutAhead ([(true, Dv.tu (.uu (.is (form (lets a) p)) (.is (form (lets b) p))))] ++ turned (twoForms (lets a) (lets (Kd.un a b)) p)) (.un (form (lets a) p) (form (lets b) p)) (form (lets (Kd.un a b)) p) (form (lets a) p) := rfl

section
variable {P : Program} {w : World} {K : PySem.W.Frag} {mg : Str → Option Value} {base : Heap} {f : Addr} {fd : FuncData}

/-! ### to_form -/
abbrev st_to_form : Stmt := top 47
theorem sc_to_form : FnScope ["kind", "plain", "word", "first", "second", "one", "other", "chain", "letters", "left", "right", "both", "used", "inner"] ["kind", "plain"] (defScope st_to_form) := ⟨rfl, rfl, rfl, by decide +kernel, rfl, by decide +kernel, by decide +kernel⟩
def r_to_form (n : Nat) : List PyData → Res → Prop := fun ds r => ∃ (k : Kd) (p : Str), ds = [emb k, .str p] ∧ k.ok = true ∧ k.dep ≤ 40 ∧ k.sg ≤ n ∧ n ≤ 2 ∧ r = .fresh (embC (toForm p k))
theorem ok_to_form (G : Mg K mg) (C_letters_in : Cal P w K mg base 42 "letters_in" ["kind"] (spR K r_letters_in)) (C_led : Cal P w K mg base 3 "led" ["chain", "word", "kind", "side"] (spR K r_led)) (C_form_in : Cal P w K mg base 2 "form_in" ["letters", "plain"] (spR K r_form_in)) (C_two_forms : Cal P w K mg base 12 "two_forms" ["one", "other", "plain"] (spR K (r_two_forms 3))) (C_itself : Cal P w K mg base 1 "itself" ["word"] (spR K r_itself)) (C_turned_chain : Cal P w K mg base 1 "turned_chain" ["chain"] (spR K r_turned_chain)) (C_cut_behind : Cal P w K mg base 4 "cut_behind" ["chain", "one", "other", "common"] (spR K r_cut_behind)) (C_cut_ahead : Cal P w K mg base 4 "cut_ahead" ["chain", "one", "other", "common"] (spR K r_cut_ahead)) (F : Fun K "to_form" "to_form" st_to_form f fd) (bF : Binds K fd ["kind", "plain"] []) (mF : mg "to_form" = some (.ref f)) :
    ∀ n : Nat, n ≤ 2 → FnOk P w K mg base CX0 (n + 43) f fd ["kind", "plain"] (spR K (r_to_form n)) := by
  have key : ∀ n : Nat, n ≤ 2 → (∀ m, n = m + 1 → Cal P w K mg base (m + 43) "to_form" ["kind", "plain"] (spR K (r_to_form m))) → FnOk P w K mg base CX0 (n + 43) f fd ["kind", "plain"] (spR K (r_to_form n)) := by
    intro n h10 ih
    refine Fun.okR F sc_to_form (r_to_form n) (by rintro _ _ ⟨_, _, rfl, _⟩; rfl) fun cdv A outer s H E hr ds r h => ?_
    have nd := sc_to_form.nd
    obtain ⟨k, p, rfl, hk, hd, hs, h2, rfl⟩ := h
    cases k with
    | pl z => exact (ew_cons (es_ifT (et_val (G.isi .str rfl rfl rfl (ev_var 0 rfl))) (ew_one (es_ret (el_lst ea_nil (small_len rfl)) rfl))))
    | ov a b =>
      cases n with
      | zero => simp [Kd.sg] at hs
      | succ m =>
        have C_to_form := ih m rfl
        have ha := (ok2 hk).1
        have hb := (ok2 hk).2
        have hd' : max a.dep b.dep + 1 ≤ 40 := hd
        have hs' : a.sg + b.sg + 1 ≤ m + 1 := hs
        have la1 := lets_len a
        have lb1 := lets_len b
        have lk1 := lets_len (Kd.ov a b)
        have lk2 : (Kd.ov a b).sg = a.sg + b.sg + 1 := rfl
        have hA := lets_ok ha
        have hB := lets_ok hb
        have hK := lets_ok hk
        have na := len2 p (k := a) (by omega)
        have nb := len2 p (k := b) (by omega)
        have n1 := two_len (lets a) (lets b) p
        have n2 := two_len (lets (Kd.ov a b)) (lets b) p
        have n3 := two_len (lets a) (lets (Kd.ov a b)) p
        rw [toForm_ov]
        generalize ca : toForm p a = CA at *
        generalize cb : toForm p b = CB at *
        generalize la : lets a = LA at *
        generalize lb : lets b = LB at *
        generalize lk : lets (Kd.ov a b) = LK at *
        generalize t1 : twoForms LA LB p = T1 at *
        generalize t2 : twoForms LK LB p = T2 at *
        generalize t3 : twoForms LA LK p = T3 at *
        generalize fA : form LA p = FA at *
        generalize fB : form LB p = FB at *
        generalize fK : form LK p = FK at *
        exact (ew_cons (es_ifF (et_val (G.isi .str rfl rfl rfl (ev_var 0 rfl))) (ew_nil 
  (ew_cons (es_unp3 2 3 4 (ev_var 0 rfl) (EW.nrm [_, _, _, _, _, _, _, _, _, _, _, _, _, _] rfl
  (ew_cons (es_par 5 6 (eg_call C_letters_in (hr.mono (by omega)) (ea_cons (ev_var 3 rfl) ea_nil) ⟨a, rfl, ha, by omega, by omega, fL la⟩) (eg_call C_letters_in (hr.mono (by omega)) (ea_cons (ev_var 4 rfl) ea_nil) ⟨b, rfl, hb, by omega, by omega, fL lb⟩) (EW.nrm [_, _, _, _, _, _, _, _, _, _, _, _, _, _] rfl
  (ew_cons (es_set 7 (el_catC (by simp only [List.length_append, List.length_cons, List.length_nil, led_len, turned_len, unitBehind_len, unitAhead_len, cutB_len, cutA_len] <;> omega) (EG.ev (eg_call C_led (hr.mono (by omega)) (ea_cons (EG.ev (eg_call C_to_form (hr.mono (by omega)) (ea_cons (ev_var 3 rfl) (ea_cons (ev_var 1 rfl) ea_nil)) ⟨a, p, rfl, ha, by omega, by omega, by omega, fC ca⟩)) (ea_cons (ev_var 2 rfl) (ea_cons (ev_var 4 rfl) (ea_cons ev_int ea_nil)))) ⟨CA, .ov, b, false, rfl, by omega, rfl⟩)) (EG.ev (eg_call C_led (hr.mono (by omega)) (ea_cons (EG.ev (eg_call C_to_form (hr.mono (by omega)) (ea_cons (ev_var 4 rfl) (ea_cons (ev_var 1 rfl) ea_nil)) ⟨b, p, rfl, hb, by omega, by omega, by omega, fC cb⟩)) (ea_cons (ev_var 2 rfl) (ea_cons (eg_call C_form_in (hr.mono (by omega)) (ea_cons (ev_var 5 rfl) (ea_cons (ev_var 1 rfl) ea_nil)) ⟨LA, p, rfl, hA, by omega, dK fA⟩) (ea_cons ev_int ea_nil)))) ⟨CB, .ov, FA, true, rfl, by omega, rfl⟩))) (EW.nrm [_, _, _, _, _, _, _, _, _, _, _, _, _, _] rfl
  (ew_cons (es_ifF (et_cmp (CmpR.to cm_eqS (by decide +kernel)) (ev_var 2 rfl) ev_str) (ew_nil 
  (ew_cons (es_set 8 (eg_call C_letters_in (hr.mono (by omega)) (ea_cons (ev_var 0 rfl) ea_nil) ⟨(Kd.ov a b), rfl, hk, hd, by omega, fL lk⟩) (EW.nrm [_, _, _, _, _, _, _, _, _, _, _, _, _, _] rfl
  (ew_cons (es_par3 9 10 11 (eg_call C_form_in (hr.mono (by omega)) (ea_cons (ev_var 5 rfl) (ea_cons (ev_var 1 rfl) ea_nil)) ⟨LA, p, rfl, hA, by omega, dK fA⟩) (eg_call C_form_in (hr.mono (by omega)) (ea_cons (ev_var 6 rfl) (ea_cons (ev_var 1 rfl) ea_nil)) ⟨LB, p, rfl, hB, by omega, dK fB⟩) (eg_call C_form_in (hr.mono (by omega)) (ea_cons (ev_var 8 rfl) (ea_cons (ev_var 1 rfl) ea_nil)) ⟨LK, p, rfl, hK, by omega, dK fK⟩) (EW.nrm [_, _, _, _, _, _, _, _, _, _, _, _, _, _] rfl
  (ew_cons (es_ifT (et_cmp (CmpR.to cm_eqS (by decide +kernel)) (ev_var 2 rfl) ev_str) (ew_cons (es_set 12 (ev_tup (ea_cons ev_str (ea_cons ev_int (ea_cons (ev_tup (ea_cons ev_str (ea_cons ev_int (ea_cons (eg_call C_itself (hr.mono (by omega)) (ea_cons (ev_var 10 rfl) ea_nil) ⟨FB, rfl, rfl⟩) (ea_cons (eg_call C_itself (hr.mono (by omega)) (ea_cons (ev_var 9 rfl) ea_nil) ⟨FA, rfl, rfl⟩) ea_nil))))) ea_nil)))) (EW.nrm [_, _, _, _, _, _, _, _, _, _, _, _, _, _] rfl
  (ew_cons (es_set 13 (el_catC (by simp only [List.length_append, List.length_cons, List.length_nil, led_len, turned_len, unitBehind_len, unitAhead_len, cutB_len, cutA_len] <;> omega) (EG.ev (EG.asC [(true, Dv.tu (.ou (.is FB) (.is FA)))] (el_lst (ea_cons (ev_tup (ea_cons ev_str (ea_cons (ev_var 12 rfl) ea_nil))) ea_nil) (small_len rfl)) rfl)) (EG.ev (eg_call C_turned_chain (hr.mono (by omega)) (ea_cons (EG.ev (eg_call C_two_forms (hr.mono (by omega)) (ea_cons (ev_var 8 rfl) (ea_cons (ev_var 6 rfl) (ea_cons (ev_var 1 rfl) ea_nil))) ⟨LK, LB, p, rfl, hK, hB, by omega, by omega, fC t2⟩)) ea_nil) ⟨T2, rfl, by omega, rfl⟩))) (EW.nrm [_, _, _, _, _, _, _, _, _, _, _, _, _, _] rfl
  (ew_one (es_ret (el_catC (by simp only [List.length_append, List.length_cons, List.length_nil, led_len, turned_len, unitBehind_len, unitAhead_len, cutB_len, cutA_len] <;> omega) (ev_var 7 rfl) (EG.ev (eg_call C_cut_behind (hr.mono (by omega)) (ea_cons (ev_var 13 rfl) (ea_cons (ev_tup (ea_cons ev_str (ea_cons (ev_var 9 rfl) (ea_cons (ev_var 10 rfl) ea_nil)))) (ea_cons (ev_var 11 rfl) (ea_cons (ev_var 10 rfl) ea_nil)))) ⟨[(true, Dv.tu (.ou (.is FB) (.is FA)))] ++ turned T2, .ov FA FB, FK, FB, rfl, (by simp only [List.length_append, List.length_cons, List.length_nil, led_len, turned_len, unitBehind_len, unitAhead_len, cutB_len, cutA_len] <;> omega), rfl⟩))) rfl))) (safe := .inr (nl_embC _)) (nd := nd)))) (safe := .inr (nl_embD (.tu (.ou (.is FB) (.is FA))))) (nd := nd)))))) (safe := ⟨nl_emb _, nl_emb _, nl_emb _⟩) (nd := nd)))) (safe := .inr (nl_embL _)) (nd := nd))))))) (safe := .inr (nl_embC _)) (nd := nd)))) (safe := .inr ⟨nl_embL _, nl_embL _⟩) (nd := nd)))) (nd := nd))))))
    | un a b =>
      cases n with
      | zero => simp [Kd.sg] at hs
      | succ m =>
        have C_to_form := ih m rfl
        have ha := (ok2 hk).1
        have hb := (ok2 hk).2
        have hd' : max a.dep b.dep + 1 ≤ 40 := hd
        have hs' : a.sg + b.sg + 1 ≤ m + 1 := hs
        have la1 := lets_len a
        have lb1 := lets_len b
        have lk1 := lets_len (Kd.un a b)
        have lk2 : (Kd.un a b).sg = a.sg + b.sg + 1 := rfl
        have hA := lets_ok ha
        have hB := lets_ok hb
        have hK := lets_ok hk
        have na := len2 p (k := a) (by omega)
        have nb := len2 p (k := b) (by omega)
        have n1 := two_len (lets a) (lets b) p
        have n2 := two_len (lets (Kd.un a b)) (lets b) p
        have n3 := two_len (lets a) (lets (Kd.un a b)) p
        rw [toForm_un]
        generalize ca : toForm p a = CA at *
        generalize cb : toForm p b = CB at *
        generalize la : lets a = LA at *
        generalize lb : lets b = LB at *
        generalize lk : lets (Kd.un a b) = LK at *
        generalize t1 : twoForms LA LB p = T1 at *
        generalize t2 : twoForms LK LB p = T2 at *
        generalize t3 : twoForms LA LK p = T3 at *
        generalize fA : form LA p = FA at *
        generalize fB : form LB p = FB at *
        generalize fK : form LK p = FK at *
        exact (ew_cons (es_ifF (et_val (G.isi .str rfl rfl rfl (ev_var 0 rfl))) (ew_nil 
  (ew_cons (es_unp3 2 3 4 (ev_var 0 rfl) (EW.nrm [_, _, _, _, _, _, _, _, _, _, _, _, _, _] rfl
  (ew_cons (es_par 5 6 (eg_call C_letters_in (hr.mono (by omega)) (ea_cons (ev_var 3 rfl) ea_nil) ⟨a, rfl, ha, by omega, by omega, fL la⟩) (eg_call C_letters_in (hr.mono (by omega)) (ea_cons (ev_var 4 rfl) ea_nil) ⟨b, rfl, hb, by omega, by omega, fL lb⟩) (EW.nrm [_, _, _, _, _, _, _, _, _, _, _, _, _, _] rfl
  (ew_cons (es_set 7 (el_catC (by simp only [List.length_append, List.length_cons, List.length_nil, led_len, turned_len, unitBehind_len, unitAhead_len, cutB_len, cutA_len] <;> omega) (EG.ev (eg_call C_led (hr.mono (by omega)) (ea_cons (EG.ev (eg_call C_to_form (hr.mono (by omega)) (ea_cons (ev_var 3 rfl) (ea_cons (ev_var 1 rfl) ea_nil)) ⟨a, p, rfl, ha, by omega, by omega, by omega, fC ca⟩)) (ea_cons (ev_var 2 rfl) (ea_cons (ev_var 4 rfl) (ea_cons ev_int ea_nil)))) ⟨CA, .un, b, false, rfl, by omega, rfl⟩)) (EG.ev (eg_call C_led (hr.mono (by omega)) (ea_cons (EG.ev (eg_call C_to_form (hr.mono (by omega)) (ea_cons (ev_var 4 rfl) (ea_cons (ev_var 1 rfl) ea_nil)) ⟨b, p, rfl, hb, by omega, by omega, by omega, fC cb⟩)) (ea_cons (ev_var 2 rfl) (ea_cons (eg_call C_form_in (hr.mono (by omega)) (ea_cons (ev_var 5 rfl) (ea_cons (ev_var 1 rfl) ea_nil)) ⟨LA, p, rfl, hA, by omega, dK fA⟩) (ea_cons ev_int ea_nil)))) ⟨CB, .un, FA, true, rfl, by omega, rfl⟩))) (EW.nrm [_, _, _, _, _, _, _, _, _, _, _, _, _, _] rfl
  (ew_cons (es_ifF (et_cmp (CmpR.to cm_eqS (by decide +kernel)) (ev_var 2 rfl) ev_str) (ew_nil 
  (ew_cons (es_set 8 (eg_call C_letters_in (hr.mono (by omega)) (ea_cons (ev_var 0 rfl) ea_nil) ⟨(Kd.un a b), rfl, hk, hd, by omega, fL lk⟩) (EW.nrm [_, _, _, _, _, _, _, _, _, _, _, _, _, _] rfl
  (ew_cons (es_par3 9 10 11 (eg_call C_form_in (hr.mono (by omega)) (ea_cons (ev_var 5 rfl) (ea_cons (ev_var 1 rfl) ea_nil)) ⟨LA, p, rfl, hA, by omega, dK fA⟩) (eg_call C_form_in (hr.mono (by omega)) (ea_cons (ev_var 6 rfl) (ea_cons (ev_var 1 rfl) ea_nil)) ⟨LB, p, rfl, hB, by omega, dK fB⟩) (eg_call C_form_in (hr.mono (by omega)) (ea_cons (ev_var 8 rfl) (ea_cons (ev_var 1 rfl) ea_nil)) ⟨LK, p, rfl, hK, by omega, dK fK⟩) (EW.nrm [_, _, _, _, _, _, _, _, _, _, _, _, _, _] rfl
  (ew_cons (es_ifF (et_cmp (CmpR.to cm_eqS (by decide +kernel)) (ev_var 2 rfl) ev_str) (ew_nil 
  (ew_cons (es_set 12 (ev_tup (ea_cons ev_str (ea_cons ev_int (ea_cons (ev_tup (ea_cons ev_str (ea_cons ev_int (ea_cons (eg_call C_itself (hr.mono (by omega)) (ea_cons (ev_var 9 rfl) ea_nil) ⟨FA, rfl, rfl⟩) (ea_cons (eg_call C_itself (hr.mono (by omega)) (ea_cons (ev_var 10 rfl) ea_nil) ⟨FB, rfl, rfl⟩) ea_nil))))) ea_nil)))) (EW.nrm [_, _, _, _, _, _, _, _, _, _, _, _, _, _] rfl
  (ew_cons (es_set 13 (el_catC (by simp only [List.length_append, List.length_cons, List.length_nil, led_len, turned_len, unitBehind_len, unitAhead_len, cutB_len, cutA_len] <;> omega) (EG.ev (EG.asC [(true, Dv.tu (.uu (.is FA) (.is FB)))] (el_lst (ea_cons (ev_tup (ea_cons ev_str (ea_cons (ev_var 12 rfl) ea_nil))) ea_nil) (small_len rfl)) rfl)) (EG.ev (eg_call C_turned_chain (hr.mono (by omega)) (ea_cons (EG.ev (eg_call C_two_forms (hr.mono (by omega)) (ea_cons (ev_var 5 rfl) (ea_cons (ev_var 8 rfl) (ea_cons (ev_var 1 rfl) ea_nil))) ⟨LA, LK, p, rfl, hA, hK, by omega, by omega, fC t3⟩)) ea_nil) ⟨T3, rfl, by omega, rfl⟩))) (EW.nrm [_, _, _, _, _, _, _, _, _, _, _, _, _, _] rfl
  (ew_one (es_ret (el_catC (by simp only [List.length_append, List.length_cons, List.length_nil, led_len, turned_len, unitBehind_len, unitAhead_len, cutB_len, cutA_len] <;> omega) (ev_var 7 rfl) (EG.ev (eg_call C_cut_ahead (hr.mono (by omega)) (ea_cons (ev_var 13 rfl) (ea_cons (ev_tup (ea_cons ev_str (ea_cons (ev_var 9 rfl) (ea_cons (ev_var 10 rfl) ea_nil)))) (ea_cons (ev_var 11 rfl) (ea_cons (ev_var 9 rfl) ea_nil)))) ⟨[(true, Dv.tu (.uu (.is FA) (.is FB)))] ++ turned T3, .un FA FB, FK, FA, rfl, (by simp only [List.length_append, List.length_cons, List.length_nil, led_len, turned_len, unitBehind_len, unitAhead_len, cutB_len, cutA_len] <;> omega), rfl⟩))) rfl))) (safe := .inr (nl_embC _)) (nd := nd)))) (safe := .inr (nl_embD (.tu (.uu (.is FA) (.is FB))))) (nd := nd))))))) (safe := ⟨nl_emb _, nl_emb _, nl_emb _⟩) (nd := nd)))) (safe := .inr (nl_embL _)) (nd := nd))))))) (safe := .inr (nl_embC _)) (nd := nd)))) (safe := .inr ⟨nl_embL _, nl_embL _⟩) (nd := nd)))) (nd := nd))))))
    | th a b =>
      cases n with
      | zero => simp [Kd.sg] at hs
      | succ m =>
        have C_to_form := ih m rfl
        have ha := (ok2 hk).1
        have hb := (ok2 hk).2
        have hd' : max a.dep b.dep + 1 ≤ 40 := hd
        have hs' : a.sg + b.sg + 1 ≤ m + 1 := hs
        have la1 := lets_len a
        have lb1 := lets_len b
        have lk1 := lets_len (Kd.th a b)
        have lk2 : (Kd.th a b).sg = a.sg + b.sg + 1 := rfl
        have hA := lets_ok ha
        have hB := lets_ok hb
        have hK := lets_ok hk
        have na := len2 p (k := a) (by omega)
        have nb := len2 p (k := b) (by omega)
        have n1 := two_len (lets a) (lets b) p
        have n2 := two_len (lets (Kd.th a b)) (lets b) p
        have n3 := two_len (lets a) (lets (Kd.th a b)) p
        rw [toForm_th]
        generalize ca : toForm p a = CA at *
        generalize cb : toForm p b = CB at *
        generalize la : lets a = LA at *
        generalize lb : lets b = LB at *
        generalize lk : lets (Kd.th a b) = LK at *
        generalize t1 : twoForms LA LB p = T1 at *
        generalize t2 : twoForms LK LB p = T2 at *
        generalize t3 : twoForms LA LK p = T3 at *
        generalize fA : form LA p = FA at *
        generalize fB : form LB p = FB at *
        generalize fK : form LK p = FK at *
        exact (ew_cons (es_ifF (et_val (G.isi .str rfl rfl rfl (ev_var 0 rfl))) (ew_nil 
  (ew_cons (es_unp3 2 3 4 (ev_var 0 rfl) (EW.nrm [_, _, _, _, _, _, _, _, _, _, _, _, _, _] rfl
  (ew_cons (es_par 5 6 (eg_call C_letters_in (hr.mono (by omega)) (ea_cons (ev_var 3 rfl) ea_nil) ⟨a, rfl, ha, by omega, by omega, fL la⟩) (eg_call C_letters_in (hr.mono (by omega)) (ea_cons (ev_var 4 rfl) ea_nil) ⟨b, rfl, hb, by omega, by omega, fL lb⟩) (EW.nrm [_, _, _, _, _, _, _, _, _, _, _, _, _, _] rfl
  (ew_cons (es_set 7 (el_catC (by simp only [List.length_append, List.length_cons, List.length_nil, led_len, turned_len, unitBehind_len, unitAhead_len, cutB_len, cutA_len] <;> omega) (EG.ev (eg_call C_led (hr.mono (by omega)) (ea_cons (EG.ev (eg_call C_to_form (hr.mono (by omega)) (ea_cons (ev_var 3 rfl) (ea_cons (ev_var 1 rfl) ea_nil)) ⟨a, p, rfl, ha, by omega, by omega, by omega, fC ca⟩)) (ea_cons (ev_var 2 rfl) (ea_cons (ev_var 4 rfl) (ea_cons ev_int ea_nil)))) ⟨CA, .th, b, false, rfl, by omega, rfl⟩)) (EG.ev (eg_call C_led (hr.mono (by omega)) (ea_cons (EG.ev (eg_call C_to_form (hr.mono (by omega)) (ea_cons (ev_var 4 rfl) (ea_cons (ev_var 1 rfl) ea_nil)) ⟨b, p, rfl, hb, by omega, by omega, by omega, fC cb⟩)) (ea_cons (ev_var 2 rfl) (ea_cons (eg_call C_form_in (hr.mono (by omega)) (ea_cons (ev_var 5 rfl) (ea_cons (ev_var 1 rfl) ea_nil)) ⟨LA, p, rfl, hA, by omega, dK fA⟩) (ea_cons ev_int ea_nil)))) ⟨CB, .th, FA, true, rfl, by omega, rfl⟩))) (EW.nrm [_, _, _, _, _, _, _, _, _, _, _, _, _, _] rfl
  (ew_cons (es_ifT (et_cmp (CmpR.to cm_eqS (by decide +kernel)) (ev_var 2 rfl) ev_str) (ew_one (es_ret (el_catC (by simp only [List.length_append, List.length_cons, List.length_nil, led_len, turned_len, unitBehind_len, unitAhead_len, cutB_len, cutA_len] <;> omega) (ev_var 7 rfl) (EG.ev (eg_call C_two_forms (hr.mono (by omega)) (ea_cons (ev_var 5 rfl) (ea_cons (ev_var 6 rfl) (ea_cons (ev_var 1 rfl) ea_nil))) ⟨LA, LB, p, rfl, hA, hB, by omega, by omega, fC t1⟩))) rfl))))) (safe := .inr (nl_embC _)) (nd := nd)))) (safe := .inr ⟨nl_embL _, nl_embL _⟩) (nd := nd)))) (nd := nd))))))
  intro n
  induction n with
  | zero => exact fun h => key 0 h fun m e => by cases e
  | succ n ih => exact fun h => key (n + 1) h fun m e => by cases e; exact cal_of mF F.kp bF (ih (by omega))
end
end PU
namespace PU
open PySem PySem.Spec PyProof.Rows L2 StX MM
section
variable {X : Cx} {δ : PEnv} {e a b c : Expr} {es : List Expr} {pos pm : Pos} {d x y : PyData} {ds xs ys : List PyData} {k : Bool}
/-- l.index(x) -/
theorem ev_index {z : PyData} {j : Nat} (hu : X.A.units + 65 < cLine) (ha : EV X a δ (.list ds)) (hb : EV X b δ d) (hs : SeqAt.shaped (.list ds) = true) (hd : SeqAt.shaped d = true) (hz : ds[j]? = some z) (h2 : PyData.eqv z d = true)
    (h3 : ∀ (m : Nat) (z' : PyData), m < j → ds[m]? = some z' → PyData.eqv z' d = false) (hbase : attributeBase a "index" X.env (eval a X.env) = eval a X.env := by rfl)
    (hfew : ((backTo pos (starEach [b] X.env)).all (fun x => !x.1) && (backToKw pos (keywordEach [] X.env)).all (fun x => x.1.isSome) && decide (([b] : List Expr).length + ([] : List Keyword).length + (if ([] : List Keyword).isEmpty then 0 else 1) < 30)) = true := by rfl)
    (hline : (pm.endLine == pos.line) = true := by rfl) (hst : starEach [b] X.env = (false, eval b X.env) :: starEach [] X.env := by rfl) (hplain : (backTo pos (starEach [] X.env)).any (·.1) = false := by rfl) :
    EV X (.Call (.Attribute a "index" pm) [b] [] pos) δ (.int (j : Nat)) := fun S σ H Q ok q => by
  refine sE_of (pe_bm PySem.F.plainAttrs_list PySem.F.slot_list_index PySem.F.type_list_index (mt_indexD hu) pe_s (pa_cons pe_s pa_nil hst) hbase hfew hline hst hplain) ?_
  refine ha S σ H _ ok fun v H1 s1 g1 => ?_
  cases (show Rep X.K (hide S H1) v (.list ds) from g1) with
  | lst k1 k2 =>
    refine ⟨.inl ⟨rfl, _, SqL.of (hide_le _ _ k1)⟩, ?_⟩
    refine hb S σ H1 _ (ok.m s1) fun w H2 s2 g2 => ?_
    exact ⟨_, w, d, ds, j, z, rfl, rfl, Rep.dp _ _ (Rep.m hide_le (Rep.m (hide_same s2) (.lst k1 k2))), Rep.dp _ _ (Rep.m hide_le g2), hs, hd, hz, h2, h3, q _ H2 (s1.trans s2) (.int _)⟩
end
theorem any_embK (ks : List Kd) (l : Kd) : ((embK ks).any fun z => PyData.eqv z (emb l)) = decide (l ∈ ks) := by
  induction ks with
  | nil => rfl
  | cons k ks ih =>
    show (PyData.eqv (emb k) (emb l) || (embK ks).any fun z => PyData.eqv z (emb l)) = _
    rw [ih, eqv_emb]
    by_cases h : k = l
    · subst h; simp
    · have h' : ¬ l = k := fun e => h e.symm
      simp [h, h']
theorem shaped_emb {k : Kd} (h : k.ok = true) (hd : k.dep ≤ 40) : SeqAt.shaped (emb k) = true := by
  unfold SeqAt.shaped
  rw [lay_emb h, dep_emb]
  exact decide_eq_true (by omega)
theorem depAll_embK {m : Nat} : ∀ {ks : List Kd}, (∀ k ∈ ks, k.dep ≤ m) → PyData.depthAll (embK ks) ≤ m
  | [], _ => Nat.zero_le _
  | k :: ks, h => by
    show max (emb k).depth (PyData.depthAll (embK ks)) ≤ m
    rw [dep_emb]
    have := h k List.mem_cons_self
    have := depAll_embK (ks := ks) fun x hx => h x (List.mem_cons_of_mem _ hx)
    omega
theorem layAll_embK {ks : List Kd} (h : ∀ k ∈ ks, k.ok = true) : PyData.canLayAll0 (embK ks) = true := lay_list fun x hx => lay_emb (h x hx)
theorem shaped_embK {ks : List Kd} (h : ∀ k ∈ ks, k.ok = true) (hd : ∀ k ∈ ks, k.dep ≤ 40) : SeqAt.shaped (.list (embK ks)) = true := by
  unfold SeqAt.shaped
  have h1 : (PyData.list (embK ks)).canLay0 = true := layAll_embK h
  have h2 : (PyData.list (embK ks)).depth ≤ 64 := by
    have := depAll_embK hd
    show PyData.depthAll (embK ks) + 1 ≤ 64
    omega
  rw [h1]
  exact decide_eq_true h2
theorem idx_before {ks : List Kd} {l : Kd} {m : Nat} {z : PyData} (h : m < ks.idxOf l) (hz : (embK ks)[m]? = some z) : PyData.eqv z (emb l) = false := by
  obtain ⟨k, h1, _, rfl⟩ := map_get hz
  rw [eqv_emb]
  refine decide_eq_false fun e => ?_
  subst e
  obtain ⟨hl, e2⟩ := List.getElem?_eq_some_iff.mp h1
  have := List.not_of_lt_findIdx h
  simp [e2] at this
theorem idx_at {ks : List Kd} {l : Kd} (h : l ∈ ks) : (embK ks)[ks.idxOf l]? = some (emb l) := by
  unfold embK
  rw [List.getElem?_map, List.getElem?_eq_getElem (List.idxOf_lt_length_of_mem h), List.getElem_idxOf] <;> rfl
theorem embC_take (c : Chain) (n : Nat) : cutD (embC c) none (some (n : Int)) = embC (c.take n) := by rw [cut_to]; unfold embC; rw [List.map_take]
theorem embK_take (c : List Kd) (n : Nat) : cutD (embK c) none (some (n : Int)) = embK (c.take n) := by rw [cut_to]; unfold embK; rw [List.map_take]
theorem embK_snoc (r : List Kd) (x : Kd) : embK (r ++ [x]) = embK r ++ [emb x] := List.map_append
end PU
namespace PU
open PySem PySem.Spec PyProof.Rows L2 StX MM

theorem hr65 {k : Nat} {A : Around} (r : Room k A) : A.units + 65 < cLine := by have := r.un; omega
theorem appK {ks : List Kd} (h : ks.length ≤ 1500) : (embK ks).length < sizeLine := Nat.lt_of_lt_of_le (by rw [embK_len]; omega) (le_line (n := 2000) (by decide))
theorem appC {ks : Chain} (h : ks.length ≤ 1500) : (embC ks).length < sizeLine := Nat.lt_of_lt_of_le (by rw [embC_len]; omega) (le_line (n := 2000) (by decide))
def StepsOk (c : Chain) : Prop := ∀ s ∈ c, SOk 40 130 s (ends s).1 (ends s).2
structure WrOk (st : Chain × List Kd) (m : Nat) : Prop where
  len : st.1.length ≤ m ∧ st.2.length ≤ m + 1
  ok : ∀ k ∈ st.2, k.ok = true ∧ k.dep ≤ 40
theorem wr_ok {st : Chain × List Kd} {m : Nat} {s : MM.Step} (h : WrOk st m) (hs : SOk 40 130 s (ends s).1 (ends s).2) : WrOk (wrStep st s) (m + 1) := by
  unfold wrStep
  by_cases c : (ends s).2 ∈ st.2
  · rw [if_pos c]
    refine ⟨?_, fun k hk => h.ok k (List.mem_of_mem_take hk)⟩
    show (st.1.take _).length ≤ m + 1 ∧ (st.2.take _).length ≤ m + 1 + 1
    rw [List.length_take, List.length_take]
    have := h.len
    omega
  · rw [if_neg c]
    refine ⟨?_, fun k hk => ?_⟩
    · show (st.1 ++ [s]).length ≤ m + 1 ∧ (st.2 ++ [(ends s).2]).length ≤ m + 1 + 1
      rw [List.length_append, List.length_singleton, List.length_append, List.length_singleton]
      have := h.len
      omega
    · rcases List.mem_append.mp hk with q | q
      · exact h.ok k q
      · rw [List.mem_singleton] at q
        subst q
        exact hs.good.2
theorem wr_fold {c : Chain} (hc : StepsOk c) : ∀ {st : Chain × List Kd} {m : Nat}, WrOk st m → WrOk (c.foldl wrStep st) (m + c.length) := by
  induction c with
  | nil => exact fun h => h
  | cons s c ih =>
    intro st m h
    have := ih (fun x hx => hc x (List.mem_cons_of_mem _ hx)) (wr_ok h (hc s List.mem_cons_self))
    rw [show m + (s :: c).length = m + 1 + c.length by rw [List.length_cons]; omega]
    exact this
theorem wr_init {c : Chain} (hc : StepsOk c) : WrOk ([], wrInit c) 0 := by
  refine ⟨⟨Nat.le_refl 0, by unfold wrInit; rw [List.length_map, List.length_take]; omega⟩, fun k hk => ?_⟩
  unfold wrInit at hk
  obtain ⟨s, hs, rfl⟩ := List.mem_map.mp hk
  exact (hc s (List.mem_of_mem_take hs)).good.1
theorem wrFold_snoc (c : Chain) (s : MM.Step) (st : Chain × List Kd) : (c ++ [s]).foldl wrStep st = wrStep (c.foldl wrStep st) s := by rw [List.foldl_append] <;> rfl
theorem wrInit_map (c : Chain) : ((c.take 1).map fun s => emb (ends s).1) = embK (wrInit c) := by unfold wrInit embK; rw [List.map_map] <;> rfl
theorem wr_in {f : Chain} {ks : List Kd} {s : MM.Step} (h : (ends s).2 ∈ ks) : wrStep (f, ks) s = (f.take (ks.idxOf (ends s).2), ks.take (ks.idxOf (ends s).2 + 1)) := if_pos h
theorem wr_out {f : Chain} {ks : List Kd} {s : MM.Step} (h : ¬ (ends s).2 ∈ ks) : wrStep (f, ks) s = (f ++ [s], ks ++ [(ends s).2]) := if_neg h

section
variable {P : Program} {w : World} {K : PySem.W.Frag} {mg : Str → Option Value} {base : Heap} {f : Addr} {fd : FuncData}

/-! ### without_rings -/
abbrev st_without_rings : Stmt := top 48
theorem sc_without_rings : FnScope ["chain", "found", "kinds", "step", "late", "at"] ["chain"] (defScope st_without_rings) := ⟨rfl, rfl, rfl, by decide +kernel, rfl, by decide +kernel, by decide +kernel⟩
def r_without_rings : List PyData → Res → Prop := fun ds r => ∃ c : Chain, ds = [.list (embC c)] ∧ c.length ≤ 900 ∧ StepsOk c ∧ r = .fresh (embC (withoutRings c))
theorem ok_without_rings (G : Mg K mg) (C_ends_of : Cal P w K mg base 175 "ends_of" ["step"] (spR K r_ends_of)) (F : Fun K "without_rings" "without_rings" st_without_rings f fd) : FnOk P w K mg base CX0 176 f fd ["chain"] (spR K r_without_rings) := by
  refine Fun.okR F sc_without_rings r_without_rings (by rintro _ _ ⟨_, rfl, _⟩; rfl) fun cdv A outer s H E hr ds r h => ?_
  have nd := sc_without_rings.nd
  have hu := hr.un
  obtain ⟨c, rfl, hlen, hc, rfl⟩ := h
  refine ew_cons (es_par 1 2 (r1 := .fresh []) (r2 := .fresh (embK (wrInit c))) (el_lst ea_nil (small_len rfl)) ?_ ?_ (safe := .inr ⟨rfl, nl_embK _⟩) (nd := nd))
  · exact EG.cast (el_lcT (l := c.take 1) (g := embS) (f := fun s => emb (ends s).1) 3 nd (ei_list (EG.ev (el_slice (ev_var 0 rfl) eo_none (eo_some ev_int) (embC_take c 1)))) (show blkC ["chain", "found", "kinds", "step", "late", "at"] (defScope st_without_rings) _ _ = true by decide +kernel)
      (fun y hy => fun _ _ _ _ _ => (ev_ix (eg_call C_ends_of (hr.mono (by omega)) (ea_cons (ev_var 3 rfl) ea_nil) (.inl ⟨y, _, _, rfl, hc y (List.mem_of_mem_take hy), rfl⟩)) ev_int rfl)) (le_line (by rw [List.length_take]; omega))) (congrArg Res.fresh (wrInit_map c))
  refine EW.nrm [_, _, _, _, _, _] rfl (ew_cons ?_)
  refine es_for (ds := embC c) 3 (fun m δ' n' => ∃ x y z : Slot, δ' = [.dat (.list (embC c)), .own (embC ((c.take m).foldl wrStep ([], wrInit c)).1), .own (embK ((c.take m).foldl wrStep ([], wrInit c)).2), x, y, z] ∧ n' = .none ∧ no1 x ∧ no1 y ∧ no1 z) (ei_list (ev_var 0 rfl)) ⟨.unk, .unk, .unk, rfl, rfl, rfl, rfl, rfl⟩ (fun m dd δ' n' hdm hI => ?_) (fun δ' n' hI => ?_) nd
  · obtain ⟨x, y, z, rfl, rfl, hx, hy, hzz⟩ := hI
    obtain ⟨s, hs, hsm, rfl⟩ := map_get hdm
    have hso := hc s hsm
    have hw := wr_fold (c := c.take m) (fun x hx => hc x (List.mem_of_mem_take hx)) (wr_init hc)
    have hml : (c.take m).length ≤ 900 := by rw [List.length_take]; omega
    rw [take_snoc hs, wrFold_snoc]
    generalize (c.take m).foldl wrStep ([], wrInit c) = st at hw
    obtain ⟨fo, ks⟩ := st
    have hlf : fo.length ≤ 900 := by have := hw.len.1; rw [Nat.zero_add] at this; exact Nat.le_trans this hml
    have hko : ∀ k ∈ ks, k.ok = true := fun k hk => (hw.ok k hk).1
    have hkd : ∀ k ∈ ks, k.dep ≤ 40 := fun k hk => (hw.ok k hk).2
    have hl := hso.good.2
    refine ⟨.inr (nl_embS s), ew_cons (es_set 4 (ev_ix (eg_call C_ends_of (hr.mono (by omega)) (ea_cons (ev_var 3 rfl) ea_nil) (.inl ⟨s, _, _, rfl, hso, rfl⟩)) ev_int rfl) (EW.nrm [_, _, _, _, _, _] rfl (ew_one ?_)) (safe := .inr (nl_emb _)) (nd := nd))⟩
    by_cases hin : (ends s).2 ∈ ks
    · rw [wr_in hin]
      refine es_ifT (et_cmp (CmpR.to (cm_inD (hr65 hr) (lay_emb hl.1) (layAll_embK hko) (by rw [dep_emb]; omega)) (by rw [any_embK]; exact decide_eq_true hin)) (ev_var 4 rfl) (ev_var 2 rfl)) ?_
      refine ew_cons (es_set 5 (ev_index (d := emb (ends s).2) (hr65 hr) (ev_var 2 rfl) (ev_var 4 rfl) (shaped_embK hko hkd) (shaped_emb hl.1 hl.2) (idx_at hin) (by rw [eqv_emb]; exact decide_eq_true rfl) (fun m z' h1 h2 => idx_before h1 h2)) (EW.nrm [_, _, _, _, _, _] rfl (ew_one ?_)) (safe := .inr rfl) (nd := nd))
      exact es_par 1 2 (el_slice (ev_var 1 rfl) eo_none (eo_some (ev_var 5 rfl)) (embC_take _ _)) (el_slice (ev_var 2 rfl) eo_none (eo_some (eg_bin br_add (ev_var 5 rfl) ev_int)) (embK_take ks (ks.idxOf (ends s).2 + 1))) ⟨_, _, _, rfl, rfl, rfl, rfl, rfl⟩ (safe := .inr ⟨nl_embC _, nl_embK _⟩) (nd := nd)
    · rw [wr_out hin]
      refine es_ifF (et_cmp (CmpR.to (cm_inD (hr65 hr) (lay_emb hl.1) (layAll_embK hko) (by rw [dep_emb]; omega)) (by rw [any_embK]; exact decide_eq_false hin)) (ev_var 4 rfl) (ev_var 2 rfl)) ?_
      have hkl : ks.length ≤ 901 := by have := hw.len.2; rw [Nat.zero_add] at this; exact Nat.le_trans this (Nat.succ_le_succ hml)
      rw [embC_snoc, embK_snoc]
      exact ew_cons (es_append 1 rfl (ev_var 3 rfl) (ew_one (es_append 2 rfl (ev_var 4 rfl) ⟨_, _, _, rfl, rfl, rfl, rfl, hzz⟩ (nl_emb _) (appK (Nat.le_trans hkl (by decide))))) (nl_embS _) (appC (Nat.le_trans hlf (by decide))))
  · obtain ⟨x, y, z, rfl, rfl, hx, hy, hzz⟩ := hI
    rw [show (embC c).length = c.length from embC_len c, List.take_length]
    exact ew_one (es_retOwn 1 rfl rfl)
end
end PU
namespace PU
open PySem PySem.Spec PyProof.Rows L2 StX MM

def LayC (c : Chain) : Prop := ∀ s ∈ c, (embD s.2).canLay0 = true
theorem layS {s : MM.Step} (h : (embD s.2).canLay0 = true) : (embS s).canLay0 = true := by
  obtain ⟨u, d⟩ := s
  cases u with
  | true => exact lay2 (show PyData.strOk "on" = true by decide +kernel) h
  | false => exact lay2 (show PyData.strOk "back" = true by decide +kernel) h
theorem layC {c : Chain} (h : LayC c) : PyData.canLayAll0 (embC c) = true := lay_list fun s hs => layS (h s hs)
theorem lay_sok {s : MM.Step} {a b : Kd} {D n : Nat} (h : SOk D n s a b) : (embD s.2).canLay0 = true := by
  obtain ⟨u, d⟩ := s
  cases u with
  | true => exact lay_embD (show Tl D n d [a] b from h)
  | false => exact lay_embD (show Tl D n d [b] a from h)
theorem Path.layC {D n : Nat} : ∀ {c : Chain} {a b : Kd}, Path D n c a b → LayC c
  | [], _, _, _ => fun s h => nomatch h
  | t :: c, a, b, ⟨m, h, h'⟩ => fun s hs => by
    rcases List.mem_cons.mp hs with e | hs
    · subst e; exact lay_sok h
    · exact Path.layC h' s hs
theorem lay_ct {a b : Dv} (h1 : (embD a).canLay0 = true) (h2 : (embD b).canLay0 = true) : (embD (.ct a b)).canLay0 = true := by
  show (PyData.strOk "cut" && (true && ((embD a).canLay0 && ((embD b).canLay0 && true)))) = true
  rw [h1, h2] <;> decide +kernel
theorem joinStep_nil (s : MM.Step) : joinStep [] s = [s] := rfl
theorem joinStep_eq {f : Chain} {t s : MM.Step} (h : t.1 = s.1) : joinStep (f ++ [t]) s = f ++ [joinTwo t s] := by
  unfold joinStep
  rw [List.getLast?_concat]
  show (if t.1 = s.1 then _ else _) = _
  rw [if_pos h, List.dropLast_concat]
theorem joinStep_ne {f : Chain} {t s : MM.Step} (h : t.1 ≠ s.1) : joinStep (f ++ [t]) s = f ++ [t] ++ [s] := by
  unfold joinStep
  rw [List.getLast?_concat]
  exact if_neg h
theorem joinStep_ok {f : Chain} {s : MM.Step} {m : Nat} (hf : LayC f ∧ f.length ≤ m) (hs : (embD s.2).canLay0 = true) : LayC (joinStep f s) ∧ (joinStep f s).length ≤ m + 1 := by
  rcases List.eq_nil_or_concat f with rfl | ⟨f, t, rfl⟩
  · rw [joinStep_nil]
    exact ⟨fun x hx => by rw [List.mem_singleton] at hx; subst hx; exact hs, by rw [List.length_singleton]; omega⟩
  · rw [List.concat_eq_append] at *
    have ht := hf.1 t (List.mem_append_right _ List.mem_cons_self)
    have hlen := hf.2
    rw [List.length_append, List.length_singleton] at hlen
    by_cases e : t.1 = s.1
    · rw [joinStep_eq e]
      refine ⟨fun x hx => ?_, by rw [List.length_append, List.length_singleton]; omega⟩
      rcases List.mem_append.mp hx with q | q
      · exact hf.1 x (List.mem_append_left _ q)
      · rw [List.mem_singleton] at q
        subst q
        unfold joinTwo
        by_cases c : s.1 = true
        · rw [if_pos c]; exact lay_ct ht hs
        · rw [if_neg c]; exact lay_ct hs ht
    · rw [joinStep_ne e]
      refine ⟨fun x hx => ?_, by rw [List.length_append, List.length_singleton, List.length_append, List.length_singleton]; omega⟩
      rcases List.mem_append.mp hx with q | q
      · exact hf.1 x q
      · rw [List.mem_singleton] at q
        subst q
        exact hs
theorem joinFold_ok {c : Chain} (hc : LayC c) : ∀ {f : Chain} {m : Nat}, LayC f ∧ f.length ≤ m → LayC (c.foldl joinStep f) ∧ (c.foldl joinStep f).length ≤ m + c.length := by
  induction c with
  | nil => exact fun h => h
  | cons s c ih =>
    intro f m h
    have := ih (fun x hx => hc x (List.mem_cons_of_mem _ hx)) (joinStep_ok h (hc s List.mem_cons_self))
    rw [show m + (s :: c).length = m + 1 + c.length by rw [List.length_cons]; omega]
    exact this
theorem joinFold_snoc (c : Chain) (s : MM.Step) (f : Chain) : (c ++ [s]).foldl joinStep f = joinStep (c.foldl joinStep f) s := by rw [List.foldl_append] <;> rfl
theorem way_inj {a b : Bool} (h : way a = way b) : a = b := by
  cases a <;> cases b
  · rfl
  · exact absurd h (show ¬ (("back" : Str) = "on") by decide +kernel)
  · exact absurd h (show ¬ (("on" : Str) = "back") by decide +kernel)
  · rfl
theorem ix_lastS (r : Chain) (x : MM.Step) : ixD (.list (embC (r ++ [x]))) (-1) = some (embS x) := by
  show atI (embC (r ++ [x])) (-1) = _
  unfold embC
  rw [List.map_append]
  exact atI_last _ _
theorem embC_isE (f : Chain) (t : MM.Step) : (!(embC (f ++ [t])).isEmpty) = true := by rw [embC_snoc]; simp

section
variable {P : Program} {w : World} {K : PySem.W.Frag} {mg : Str → Option Value} {base : Heap} {f : Addr} {fd : FuncData}

/-! ### joined_steps -/
abbrev st_joined_steps : Stmt := top 49
theorem sc_joined_steps : FnScope ["chain", "found", "way", "derivation", "elder", "both"] ["chain"] (defScope st_joined_steps) := ⟨rfl, rfl, rfl, by decide +kernel, rfl, by decide +kernel, by decide +kernel⟩
def r_joined_steps : List PyData → Res → Prop := fun ds r => ∃ c : Chain, ds = [.list (embC c)] ∧ c.length ≤ 900 ∧ LayC c ∧ r = .fresh (embC (joined c))
theorem ok_joined_steps (G : Mg K mg) (F : Fun K "joined_steps" "joined_steps" st_joined_steps f fd) : FnOk P w K mg base CX0 1 f fd ["chain"] (spR K r_joined_steps) := by
  refine Fun.okR F sc_joined_steps r_joined_steps (by rintro _ _ ⟨_, rfl, _⟩; rfl) fun cdv A outer s H E hr ds r h => ?_
  have nd := sc_joined_steps.nd
  obtain ⟨c, rfl, hlen, hc, rfl⟩ := h
  refine ew_cons (es_set 1 (el_lst ea_nil (small_len rfl)) (ew_cons ?_) (nd := nd))
  refine es_for2 (ds := embC c) 2 3 (fun m δ' n' => ∃ x y z u : Slot, δ' = [.dat (.list (embC c)), .own (embC ((c.take m).foldl joinStep [])), x, y, z, u] ∧ n' = .none ∧ no1 x ∧ no1 y ∧ no1 z ∧ no1 u) (ei_list (ev_var 0 rfl)) ⟨.unk, .unk, .unk, .unk, rfl, rfl, rfl, rfl, rfl, rfl⟩ (fun m dd δ' n' hdm hI => ?_) (fun δ' n' hI => ?_) nd
  · obtain ⟨x, y, z, u, rfl, rfl, hx, hy, hzz, hu⟩ := hI
    obtain ⟨⟨g, d⟩, hs, hsm, rfl⟩ := map_get hdm
    have hsl := hc _ hsm
    have hw := joinFold_ok (c := c.take m) (fun x hx => hc x (List.mem_of_mem_take hx)) (f := []) (m := 0) ⟨fun x hx => (nomatch hx), Nat.le_refl 0⟩
    have hml : (c.take m).length ≤ 900 := by rw [List.length_take]; omega
    rw [take_snoc hs, joinFold_snoc]
    generalize (c.take m).foldl joinStep [] = cur at hw
    have hcur : cur.length ≤ 900 := by have := hw.2; omega
    refine ⟨_, _, rfl, .inr ⟨rfl, nl_embD d⟩, EW.nrm [_, _, _, _, _, _] rfl ?_⟩
    rcases List.eq_nil_or_concat cur with rfl | ⟨f, t, rfl⟩
    · rw [joinStep_nil]
      refine ew_one (es_ifF (et_bw (eb_andF (et_cmp (CmpR.to (cm_neNil hr.units rfl) rfl) (ev_var 1 rfl) (EG.ev (el_lst ea_nil (small_len rfl)))))) (ew_one (es_append 1 rfl (EV.to (d' := embS (g, d)) (ev_tup (ea_cons (ev_var 2 rfl) (ea_cons (ev_var 3 rfl) ea_nil))) rfl) ⟨_, _, _, _, rfl, rfl, rfl, rfl, hzz, hu⟩ (nl_embS _) (appC (by decide)))))
    · rw [List.concat_eq_append] at *
      have hlay := layC hw.1
      rw [List.length_append, List.length_singleton] at hcur
      obtain ⟨g', e⟩ := t
      by_cases q : g' = g
      · subst q
        rw [joinStep_eq (t := (g', e)) (s := (g', d)) rfl, embC_snoc f (joinTwo (g', e) (g', d))]
        cases g' with
        | true =>
          refine ew_one (es_ifT (et_bw (eb_andT (et_cmp (CmpR.to (cm_neNil hr.units hlay) (embC_isE _ _)) (ev_var 1 rfl) (EG.ev (el_lst ea_nil (small_len rfl)))) (eb_and1 (et_cmp (CmpR.to cm_eqS (decide_eq_true rfl)) (ev_ix (ev_ix (ev_var 1 rfl) (ev_neg ev_int) (ix_lastS _ _)) ev_int rfl) (ev_var 2 rfl))))) ?_)
          refine ew_cons (es_popIx 1 4 (es := [.str "on", embD e]) (ds := embC f) (by rw [show PyData.tuple [.str "on", embD e] = embS (true, e) from rfl, ← embC_snoc] <;> rfl) (show atI [PyData.str "on", embD e] 1 = some (embD e) from rfl) (EW.nrm [_, _, _, _, _, _] rfl ?_) (nl_embD e) (nd := nd))
          refine ew_cons (es_set 5 (eg_ifT (et_cmp (CmpR.to cm_eqS (show decide (("on" : Str) = "on") = true by decide +kernel)) (ev_var 2 rfl) ev_str) (EV.to (d' := embD (.ct e d)) (ev_tup (ea_cons ev_str (ea_cons ev_int (ea_cons (ev_var 4 rfl) (ea_cons (ev_var 3 rfl) ea_nil))))) rfl)) (EW.nrm [_, _, _, _, _, _] rfl ?_) (safe := .inr (nl_embD _)) (nd := nd))
          exact ew_one (es_append 1 rfl (EV.to (d' := embS (true, .ct e d)) (ev_tup (ea_cons (ev_var 2 rfl) (ea_cons (ev_var 5 rfl) ea_nil))) rfl) ⟨_, _, _, _, rfl, rfl, rfl, rfl, rfl, rfl⟩ (nl_embS _) (appC (by omega)))
        | false =>
          refine ew_one (es_ifT (et_bw (eb_andT (et_cmp (CmpR.to (cm_neNil hr.units hlay) (embC_isE _ _)) (ev_var 1 rfl) (EG.ev (el_lst ea_nil (small_len rfl)))) (eb_and1 (et_cmp (CmpR.to cm_eqS (decide_eq_true rfl)) (ev_ix (ev_ix (ev_var 1 rfl) (ev_neg ev_int) (ix_lastS _ _)) ev_int rfl) (ev_var 2 rfl))))) ?_)
          refine ew_cons (es_popIx 1 4 (es := [.str "back", embD e]) (ds := embC f) (by rw [show PyData.tuple [.str "back", embD e] = embS (false, e) from rfl, ← embC_snoc] <;> rfl) (show atI [PyData.str "back", embD e] 1 = some (embD e) from rfl) (EW.nrm [_, _, _, _, _, _] rfl ?_) (nl_embD e) (nd := nd))
          refine ew_cons (es_set 5 (eg_ifF (et_cmp (CmpR.to cm_eqS (show decide (("back" : Str) = "on") = false by decide +kernel)) (ev_var 2 rfl) ev_str) (EV.to (d' := embD (.ct d e)) (ev_tup (ea_cons ev_str (ea_cons ev_int (ea_cons (ev_var 3 rfl) (ea_cons (ev_var 4 rfl) ea_nil))))) rfl)) (EW.nrm [_, _, _, _, _, _] rfl ?_) (safe := .inr (nl_embD _)) (nd := nd))
          exact ew_one (es_append 1 rfl (EV.to (d' := embS (false, .ct d e)) (ev_tup (ea_cons (ev_var 2 rfl) (ea_cons (ev_var 5 rfl) ea_nil))) rfl) ⟨_, _, _, _, rfl, rfl, rfl, rfl, rfl, rfl⟩ (nl_embS _) (appC (by omega)))
      · rw [joinStep_ne q]
        refine ew_one (es_ifF (et_bw (eb_andT (et_cmp (CmpR.to (cm_neNil hr.units hlay) (embC_isE _ _)) (ev_var 1 rfl) (EG.ev (el_lst ea_nil (small_len rfl)))) (eb_and1 (et_cmp (CmpR.to cm_eqS (decide_eq_false (fun z => q (way_inj z)))) (ev_ix (ev_ix (ev_var 1 rfl) (ev_neg ev_int) (ix_lastS _ _)) ev_int rfl) (ev_var 2 rfl))))) ?_)
        exact ew_one (es_append 1 rfl (EV.to (d' := embS (g, d)) (ev_tup (ea_cons (ev_var 2 rfl) (ea_cons (ev_var 3 rfl) ea_nil))) rfl) ⟨.dat (.str (way g)), .dat (embD d), z, u, by rw [embC_snoc (f ++ [(g', e)]) (g, d)] <;> rfl, rfl, rfl, rfl, hzz, hu⟩ (nl_embS _) (appC (by rw [List.length_append, List.length_singleton]; omega)))
  · obtain ⟨x, y, z, u, rfl, rfl, hx, hy, hzz, hu⟩ := hI
    rw [show (embC c).length = c.length from embC_len c, List.take_length]
    exact ew_one (es_retOwn 1 rfl rfl)
end
end PU
namespace PU
open PySem PySem.Spec PyProof.Rows L2 StX MM
section
variable {X : Cx} {δ : PEnv} {e a b c : Expr} {es : List Expr} {pos : Pos} {d x y : PyData} {ds xs ys : List PyData} {k : Bool} {P : Res → Prop}
theorem EN.imp {P' : Res → Prop} (h : EN X e δ P) (hp : ∀ r, P r → P' r) : EN X e δ P' := fun S σ H Q ok q => h S σ H Q ok fun r v H' hr s g => q r v H' (hp r hr) s g
theorem en_if (hc : ET X c δ k) (h1 : k = true → EN X a δ P) (h2 : k = false → EN X b δ P) : EN X (.IfExp c a b pos) δ P := fun S σ H Q ok q => by
  refine sE_of (pe_ifExp pt_s pe_s pe_s) ?_
  refine hc S σ H _ ok fun H1 s1 => ?_
  cases k with
  | true => exact iteT (h1 rfl S σ H1 _ (ok.m s1) fun r v H2 hP s2 g2 => q r _ _ hP (s1.trans s2) (g2.back s1))
  | false => exact iteF (h2 rfl S σ H1 _ (ok.m s1) fun r v H2 hP s2 g2 => q r _ _ hP (s1.trans s2) (g2.back s1))
end
theorem eqvAll_map {α : Type} [DecidableEq α] {f : α → PyData} (h : ∀ x y, PyData.eqv (f x) (f y) = decide (x = y)) : ∀ (l m : List α), PyData.eqvAll (l.map f) (m.map f) = decide (l = m)
  | [], [] => rfl
  | [], _ :: _ => rfl
  | _ :: _, [] => rfl
  | x :: l, y :: m => by
    show (PyData.eqv (f x) (f y) && PyData.eqvAll (l.map f) (m.map f)) = _
    rw [h, eqvAll_map h l m]
    by_cases e : x = y
    · subst e; by_cases e' : l = m <;> simp [e']
    · simp [e]
theorem eqv_embL (l m : List Lt) : PyData.eqv (.list (embL l)) (.list (embL m)) = decide (l = m) := eqvAll_map eqv_embT l m
theorem eqv_embK (l m : List Kd) : PyData.eqv (.list (embK l)) (.list (embK m)) = decide (l = m) := eqvAll_map eqv_emb l m
theorem depAll_embL : ∀ l : List Lt, PyData.depthAll (embL l) ≤ 1
  | [] => Nat.zero_le _
  | x :: l => by
    show max (embT x).depth (PyData.depthAll (embL l)) ≤ 1
    have := depAll_embL l
    rw [dep_embT]
    omega
theorem dep_listL (l : List Lt) : (PyData.list (embL l)).depth ≤ 2 := Nat.succ_le_succ (depAll_embL l)
end PU
namespace PU
open PySem PySem.Spec PyProof.Rows L2 StX MM

theorem Path.steps {D n : Nat} (hD : D ≤ 40) (hn : n ≤ 130) : ∀ {c : Chain} {a b : Kd}, Path D n c a b → StepsOk c
  | [], _, _, _ => fun s h => nomatch h
  | t :: c, a, b, ⟨m, h, h'⟩ => fun s hs => by
    rcases List.mem_cons.mp hs with e | hs
    · subst e
      rw [h.ends]
      exact h.mono hD hn
    · exact Path.steps hD hn h' s hs
/-- what is_chain answers -/
def isCh (a b : Kd) (c : Chain) : Bool := match kindsOf c with
  | [] => decide (a = b)
  | k :: ks => linked c && (decide (k = a) && decide ((k :: ks).getLastD bot = b))
theorem kinds_two {c : Chain} (h : c ≠ []) : ∃ k ks, kindsOf c = k :: ks := by
  cases c with
  | nil => exact absurd rfl h
  | cons s c => exact ⟨_, _, rfl⟩
theorem ix_lastK (ks : List Kd) (h : ks ≠ []) : ixD (.list (embK ks)) (-1) = some (emb (ks.getLastD bot)) := by
  rcases List.eq_nil_or_concat ks with rfl | ⟨l, x, rfl⟩
  · exact absurd rfl h
  · rw [List.concat_eq_append, List.getLastD_concat]
    exact ix_last l x
theorem kinds_ok {c : Chain} (h : Val c) : ∀ k ∈ kindsOf c, k.ok = true ∧ k.dep ≤ 40 := by
  cases c with
  | nil => exact fun k hk => nomatch hk
  | cons s c =>
    intro k hk
    rcases List.mem_cons.mp hk with e | hk
    · subst e
      obtain ⟨a, b, h1⟩ := h s List.mem_cons_self
      rw [h1.ends]
      exact h1.good.1
    · obtain ⟨t, ht, rfl⟩ := List.mem_map.mp hk
      obtain ⟨a, b, h1⟩ := h t ht
      rw [h1.ends]
      exact h1.good.2
theorem getLastD_mem {ks : List Kd} (h : ks ≠ []) : ks.getLastD bot ∈ ks := by
  rcases List.eq_nil_or_concat ks with rfl | ⟨l, x, rfl⟩
  · exact absurd rfl h
  · rw [List.concat_eq_append, List.getLastD_concat]
    exact List.mem_append_right _ List.mem_cons_self

section
variable {P : Program} {w : World} {K : PySem.W.Frag} {mg : Str → Option Value} {base : Heap} {f : Addr} {fd : FuncData}

/-! ### shortened_in -/
abbrev st_shortened_in : Stmt := top 50
theorem sc_shortened_in : FnScope ["chain"] ["chain"] (defScope st_shortened_in) := ⟨rfl, rfl, rfl, by decide +kernel, rfl, by decide +kernel, by decide +kernel⟩
def r_shortened_in : List PyData → Res → Prop := fun ds r => ∃ (c : Chain) (a b : Kd), ds = [.list (embC c)] ∧ Path 40 130 c a b ∧ c.length ≤ 900 ∧ r = .fresh (embC (shortened c))
theorem ok_shortened_in (G : Mg K mg) (C_without_rings : Cal P w K mg base 176 "without_rings" ["chain"] (spR K r_without_rings)) (C_joined_steps : Cal P w K mg base 1 "joined_steps" ["chain"] (spR K r_joined_steps)) (F : Fun K "shortened_in" "shortened_in" st_shortened_in f fd) : FnOk P w K mg base CX0 177 f fd ["chain"] (spR K r_shortened_in) := by
  refine Fun.okR F sc_shortened_in r_shortened_in (by rintro _ _ ⟨_, _, _, rfl, _⟩; rfl) fun cdv A outer s H E hr ds r h => ?_
  have nd := sc_shortened_in.nd
  obtain ⟨c, a, b, rfl, hp, hlen, rfl⟩ := h
  have hw := wr_path hp
  have hwl : (withoutRings c).length ≤ 900 := Nat.le_trans hw.2.length_le hlen
  exact (ew_one (es_ret (eg_call C_joined_steps (hr.mono (by omega)) (ea_cons (EG.ev (eg_call C_without_rings (hr.mono (by omega)) (ea_cons (ev_var 0 rfl) ea_nil) ⟨c, rfl, hlen, Path.steps (Nat.le_refl _) (Nat.le_refl _) hp, rfl⟩)) ea_nil) ⟨withoutRings c, rfl, hwl, Path.layC hw.1, rfl⟩) rfl))
/-! ### are_alike_in -/
abbrev st_are_alike_in : Stmt := top 51
theorem sc_are_alike_in : FnScope ["one", "other"] ["one", "other"] (defScope st_are_alike_in) := ⟨rfl, rfl, rfl, by decide +kernel, rfl, by decide +kernel, by decide +kernel⟩
def r_are_alike_in : List PyData → Res → Prop := fun ds r => ∃ a b : Kd, ds = [emb a, emb b] ∧ (a.ok = true ∧ a.dep ≤ 40 ∧ a.sg ≤ 1000) ∧ (b.ok = true ∧ b.dep ≤ 40 ∧ b.sg ≤ 1000) ∧ r = .dat (.bool (decide (lets a = lets b)))
theorem ok_are_alike_in (G : Mg K mg) (C_letters_in : Cal P w K mg base 42 "letters_in" ["kind"] (spR K r_letters_in)) (F : Fun K "are_alike_in" "are_alike_in" st_are_alike_in f fd) : FnOk P w K mg base CX0 43 f fd ["one", "other"] (spR K r_are_alike_in) := by
  refine Fun.okR F sc_are_alike_in r_are_alike_in (by rintro _ _ ⟨_, _, rfl, _⟩; rfl) fun cdv A outer s H E hr ds r h => ?_
  have nd := sc_are_alike_in.nd
  obtain ⟨a, b, rfl, ⟨ha, da, sa⟩, ⟨hb, db, sb⟩, rfl⟩ := h
  have l1 := lay_embL (lets_ok ha)
  have l2 := lay_embL (lets_ok hb)
  have d1 := dep_listL (lets a)
  exact (ew_one (es_ret (ev_cmp (CmpR.to (cm_eq (x := .list (embL (lets a))) (y := .list (embL (lets b))) hr.units l1 l2 (by omega)) (eqv_embL _ _)) (EG.ev (eg_call C_letters_in (hr.mono (by omega)) (ea_cons (ev_var 0 rfl) ea_nil) ⟨a, rfl, ha, da, sa, rfl⟩)) (EG.ev (eg_call C_letters_in (hr.mono (by omega)) (ea_cons (ev_var 1 rfl) ea_nil) ⟨b, rfl, hb, db, sb, rfl⟩))) rfl))
/-! ### chain_in -/
abbrev st_chain_in : Stmt := top 52
theorem sc_chain_in : FnScope ["one", "other", "plain"] ["one", "other"] (defScope st_chain_in) := ⟨rfl, rfl, rfl, by decide +kernel, rfl, by decide +kernel, by decide +kernel⟩
def r_chain_in : List PyData → (Res → Prop) → Prop := fun ds Ps => ∃ a b : Kd, ds = [emb a, emb b] ∧ (a.ok = true ∧ a.dep ≤ 40 ∧ a.sg ≤ 2) ∧ (b.ok = true ∧ b.dep ≤ 40 ∧ b.sg ≤ 2) ∧ lets a = lets b ∧ ∀ p ∈ words a, Ps (.fresh (embC (chainIn a b p)))
theorem ok_chain_in (G : Mg K mg) (C_plains_in : Cal P w K mg base 4 "plains_in" ["kind"] (spN K r_plains_in)) (C_shortened_in : Cal P w K mg base 177 "shortened_in" ["chain"] (spR K r_shortened_in)) (C_to_form : Cal P w K mg base 45 "to_form" ["kind", "plain"] (spR K (r_to_form 2))) (C_turned_chain : Cal P w K mg base 1 "turned_chain" ["chain"] (spR K r_turned_chain)) (F : Fun K "chain_in" "chain_in" st_chain_in f fd) : FnOk P w K mg base CX0 178 f fd ["one", "other"] (spN K r_chain_in) := by
  refine Fun.okN F sc_chain_in r_chain_in (by rintro _ _ ⟨_, _, rfl, _⟩; rfl) fun cdv A outer s H E hr ds r h => ?_
  have nd := sc_chain_in.nd
  obtain ⟨a, b, rfl, ⟨ha, da, sa⟩, ⟨hb, db, sb⟩, hab, hP⟩ := h
  refine ew_cons (es_setN 2 (en_ix (P' := fun r => ∃ p, r = .dat (.str p) ∧ p ∈ words a) (en_call (P := fun r => ∃ ys : List Str, r = .fresh (strsD ys) ∧ (∀ y ∈ ys, y ∈ words a) ∧ ys ≠ []) C_plains_in (hr.mono (by omega)) (ea_cons (ev_var 0 rfl) ea_nil) ⟨a, rfl, sa, fun ys h1 h2 => ⟨ys, rfl, h1, h2⟩⟩) (fun _ => ev_int) ?_) ?_ nd)
  · rintro r ⟨ys, rfl, h1, h2⟩
    cases ys with
    | nil => exact absurd rfl h2
    | cons y ys => exact ⟨_, .str y, rfl, at_zero _ _, y, rfl, h1 y List.mem_cons_self⟩
  · rintro r ⟨p, rfl, hp⟩
    refine ⟨.inr rfl, EW.nrm [_, _, _] rfl ?_⟩
    have hpo := words_ok ha p hp
    have p1 := (path_toForm hpo a ha sa).mono (D' := 40) (n' := 130) (by omega) (by omega)
    have p2 := (path_toForm hpo b hb sb).mono (D' := 40) (n' := 130) (by omega) (by omega)
    rw [← hab] at p2
    have p3 := p1.app p2.turned
    have n1 := len2 p sa
    have n2 := len2 p sb
    have hP1 := hP p hp
    unfold chainIn at hP1
    generalize e1 : toForm p a = c1 at *
    generalize e2 : toForm p b = c2 at *
    exact (ew_one (es_ret (eg_call C_shortened_in (hr.mono (by omega)) (ea_cons (EG.ev (el_catC (by rw [turned_len]; omega) (EG.ev (eg_call C_to_form (hr.mono (by omega)) (ea_cons (ev_var 0 rfl) (ea_cons (ev_var 2 rfl) ea_nil)) ⟨a, p, rfl, ha, da, sa, Nat.le_refl 2, fC e1⟩)) (EG.ev (eg_call C_turned_chain (hr.mono (by omega)) (ea_cons (EG.ev (eg_call C_to_form (hr.mono (by omega)) (ea_cons (ev_var 1 rfl) (ea_cons (ev_var 2 rfl) ea_nil)) ⟨b, p, rfl, hb, db, sb, Nat.le_refl 2, fC e2⟩)) ea_nil) ⟨c2, rfl, by omega, rfl⟩)))) ea_nil) ⟨c1 ++ turned c2, _, _, rfl, p3, by rw [List.length_append, turned_len]; omega, rfl⟩) hP1))
/-! ### is_chain -/
abbrev st_is_chain : Stmt := top 53
theorem sc_is_chain : FnScope ["one", "other", "value", "kinds"] ["one", "other", "value"] (defScope st_is_chain) := ⟨rfl, rfl, rfl, by decide +kernel, rfl, by decide +kernel, by decide +kernel⟩
def r_is_chain : List PyData → Res → Prop := fun ds r => ∃ (a b : Kd) (v : PyData), ds = [emb a, emb b, v] ∧ (a.ok = true ∧ a.dep ≤ 40) ∧ (b.ok = true ∧ b.dep ≤ 40) ∧
  ((∃ c : Chain, v = .list (embC c) ∧ Val c ∧ c.length ≤ 1000 ∧ r = .dat (.bool (isCh a b c))) ∨
   (∃ (c : Chain) (z : Str), v = .list (embC c ++ [.str z]) ∧ Val c ∧ c.length ≤ 1000 ∧ PyData.strOk z = true ∧ r = .dat (.bool false)) ∨
   (∃ c : Chain, v = .tuple (embC c) ∧ Val c ∧ c ≠ [] ∧ r = .dat (.bool false)))
theorem ok_is_chain (G : Mg K mg) (C_check_kind : Cal P w K mg base 43 "check_kind" ["value"] (spR K r_check_kind)) (C_along : Cal P w K mg base 176 "along" ["value"] (spR K r_along)) (F : Fun K "is_chain" "is_chain" st_is_chain f fd) : FnOk P w K mg base CX0 177 f fd ["one", "other", "value"] (spR K r_is_chain) := by
  refine Fun.okR F sc_is_chain r_is_chain (by rintro _ _ ⟨_, _, _, rfl, _⟩; rfl) fun cdv A outer s H E hr ds r h => ?_
  have nd := sc_is_chain.nd
  have hu := hr.units
  obtain ⟨a, b, v, rfl, ⟨ha, da⟩, ⟨hb, db⟩, h⟩ := h
  refine ew_cons (es_expr (eg_call C_check_kind (hr.mono (by omega)) (ea_cons (ev_var 0 rfl) ea_nil) ⟨a, rfl, ha, da, rfl⟩)  (ew_cons (es_expr (eg_call C_check_kind (hr.mono (by omega)) (ea_cons (ev_var 1 rfl) ea_nil) ⟨b, rfl, hb, db, rfl⟩)  ?_)))
  rcases h with ⟨c, rfl, hv, hlen, rfl⟩ | ⟨c, z, rfl, hv, hlen, hz, rfl⟩ | ⟨c, rfl, hv, hne, rfl⟩
  · have hlay := lay_embC hv
    cases c with
    | nil => exact (ew_cons (es_ifT (et_cmp (CmpR.to (cm_eqNil hu hlay) rfl) (ev_var 2 rfl) (EG.ev (el_lst ea_nil (small_len rfl)))) (ew_one (es_ret (ev_andT (G.isi .list rfl rfl rfl (ev_var 2 rfl)) (ev_one (ev_cmp (CmpR.to (cm_eq hu (lay_emb ha) (lay_emb hb) (by rw [dep_emb]; omega)) (eqv_emb a b)) (ev_var 0 rfl) (ev_var 1 rfl)))) rfl))))
    | cons t c =>
      refine ew_cons (es_ifF (et_cmp (CmpR.to (cm_eqNil hu hlay) rfl) (ev_var 2 rfl) (EG.ev (el_lst ea_nil (small_len rfl)))) (ew_nil ?_))
      have hko := kinds_ok hv
      obtain ⟨k, ks, hk⟩ := kinds_two (c := t :: c) (by simp)
      have hch : isCh a b (t :: c) = (linked (t :: c) && (decide (k = a) && decide ((k :: ks).getLastD bot = b))) := by unfold isCh; rw [hk]
      rw [hch]
      have hk0 := hko k (by rw [hk]; exact List.mem_cons_self)
      have hk1 := hko ((k :: ks).getLastD bot) (by rw [hk]; exact getLastD_mem (by simp))
      cases hl : linked (t :: c) with
      | false => exact (ew_cons (es_set 3 (eg_call C_along (hr.mono (by omega)) (ea_cons (ev_var 2 rfl) ea_nil) (.inr (.inl ⟨t :: c, rfl, hv, hlen, .inr hl, rfl⟩))) (ew_one (es_ret (ev_andF (ev_cmp (CmpR.to cm_notN rfl) (ev_var 3 rfl) ev_non)) rfl)) (nd := nd)))
      | true =>
        refine ew_cons (es_set 3 (r := .fresh (embK (k :: ks))) (eg_call C_along (hr.mono (by omega)) (ea_cons (ev_var 2 rfl) ea_nil) (.inl ⟨t :: c, rfl, hv, hlen, by simp, hl, by rw [hk]⟩)) (EW.nrm [_, _, _, _] rfl ?_) (nd := nd))
        by_cases e1 : k = a
        · subst e1
          by_cases e2 : (k :: ks).getLastD bot = b
          · exact (ew_one (es_ret (ev_andT (ev_cmp (CmpR.to cm_notN rfl) (ev_var 3 rfl) ev_non) (ev_andT (ev_cmp (CmpR.to (cm_eq hu (lay_emb hk0.1) (lay_emb ha) (by rw [dep_emb]; omega)) ((eqv_emb _ _).trans (decide_eq_true rfl))) (ev_ix (ev_var 3 rfl) ev_int (by exact at_zero _ _)) (ev_var 0 rfl)) (ev_one (ev_cmp (CmpR.to (cm_eq hu (lay_emb hk1.1) (lay_emb hb) (by rw [dep_emb, dep_emb]; omega)) ((eqv_emb _ _).trans (decide_eq_true e2))) (ev_ix (ev_var 3 rfl) (ev_neg ev_int) (ix_lastK _ (by simp))) (ev_var 1 rfl))))) (by rw [decide_eq_true e2] <;> simp)))
          · exact (ew_one (es_ret (ev_andT (ev_cmp (CmpR.to cm_notN rfl) (ev_var 3 rfl) ev_non) (ev_andT (ev_cmp (CmpR.to (cm_eq hu (lay_emb hk0.1) (lay_emb ha) (by rw [dep_emb]; omega)) ((eqv_emb _ _).trans (decide_eq_true rfl))) (ev_ix (ev_var 3 rfl) ev_int (by exact at_zero _ _)) (ev_var 0 rfl)) (ev_one (ev_cmp (CmpR.to (cm_eq hu (lay_emb hk1.1) (lay_emb hb) (by rw [dep_emb, dep_emb]; omega)) ((eqv_emb _ _).trans (decide_eq_false e2))) (ev_ix (ev_var 3 rfl) (ev_neg ev_int) (ix_lastK _ (by simp))) (ev_var 1 rfl))))) (by rw [decide_eq_false e2] <;> simp)))
        · exact (ew_one (es_ret (ev_andT (ev_cmp (CmpR.to cm_notN rfl) (ev_var 3 rfl) ev_non) (ev_andF (ev_cmp (CmpR.to (cm_eq hu (lay_emb hk0.1) (lay_emb ha) (by rw [dep_emb, dep_emb]; omega)) ((eqv_emb _ _).trans (decide_eq_false e1))) (ev_ix (ev_var 3 rfl) ev_int (by exact at_zero _ _)) (ev_var 0 rfl)))) (by rw [decide_eq_false e1] <;> simp)))
  · have hlay : PyData.canLayAll0 (embC c ++ [.str z]) = true := lay_app (lay_embC hv) (by show (PyData.canLay0 (.str z) && true) = true; rw [show PyData.canLay0 (.str z) = PyData.strOk z from rfl, hz] <;> rfl)
    exact (ew_cons (es_ifF (et_cmp (CmpR.to (cm_eqNil hu hlay) (by simp)) (ev_var 2 rfl) (EG.ev (el_lst ea_nil (small_len rfl)))) (ew_nil (ew_cons (es_set 3 (eg_call C_along (hr.mono (by omega)) (ea_cons (ev_var 2 rfl) ea_nil) (.inr (.inr (.inl ⟨c, z, rfl, hv, hlen, hz, rfl⟩)))) (ew_one (es_ret (ev_andF (ev_cmp (CmpR.to cm_notN rfl) (ev_var 3 rfl) ev_non)) rfl)) (nd := nd))))))
  · have hlay : (PyData.tuple (embC c)).canLay0 = true := lay_embC hv
    exact (ew_cons (es_ifF (et_cmp (CmpR.to (cm_eq hu hlay (y := .list []) rfl (by rw [show (PyData.list []).depth = 1 from rfl]; omega)) (by simp [PyData.eqv])) (ev_var 2 rfl) (EG.ev (el_lst ea_nil (small_len rfl)))) (ew_nil (ew_cons (es_set 3 (eg_call C_along (hr.mono (by omega)) (ea_cons (ev_var 2 rfl) ea_nil) (.inr (.inr (.inr ⟨_, rfl, rfl⟩)))) (ew_one (es_ret (ev_andF (ev_cmp (CmpR.to cm_notN rfl) (ev_var 3 rfl) ev_non)) rfl)) (nd := nd))))))
/-! ### are_alike -/
abbrev st_are_alike : Stmt := top 54
theorem sc_are_alike : FnScope ["one", "other"] ["one", "other"] (defScope st_are_alike) := ⟨rfl, rfl, rfl, by decide +kernel, rfl, by decide +kernel, by decide +kernel⟩
def r_are_alike : List PyData → Res → Prop := r_are_alike_in
theorem ok_are_alike (G : Mg K mg) (C_check_kind : Cal P w K mg base 43 "check_kind" ["value"] (spR K r_check_kind)) (C_are_alike_in : Cal P w K mg base 43 "are_alike_in" ["one", "other"] (spR K r_are_alike_in)) (F : Fun K "are_alike" "are_alike" st_are_alike f fd) : FnOk P w K mg base CX0 44 f fd ["one", "other"] (spR K r_are_alike) := by
  refine Fun.okR F sc_are_alike r_are_alike (by rintro _ _ ⟨_, _, rfl, _⟩; rfl) fun cdv A outer s H E hr ds r h => ?_
  have nd := sc_are_alike.nd
  obtain ⟨a, b, rfl, ⟨ha, da, sa⟩, ⟨hb, db, sb⟩, rfl⟩ := h
  exact ew_cons (es_expr (eg_call C_check_kind (hr.mono (by omega)) (ea_cons (ev_var 0 rfl) ea_nil) ⟨a, rfl, ha, da, rfl⟩)  (ew_cons (es_expr (eg_call C_check_kind (hr.mono (by omega)) (ea_cons (ev_var 1 rfl) ea_nil) ⟨b, rfl, hb, db, rfl⟩)  (ew_one (es_ret (eg_call C_are_alike_in (hr.mono (by omega)) (ea_cons (ev_var 0 rfl) (ea_cons (ev_var 1 rfl) ea_nil)) ⟨a, b, rfl, ⟨ha, da, sa⟩, ⟨hb, db, sb⟩, rfl⟩) rfl)))))
/-! ### chain_of -/
abbrev st_chain_of : Stmt := top 55
theorem sc_chain_of : FnScope ["one", "other"] ["one", "other"] (defScope st_chain_of) := ⟨rfl, rfl, rfl, by decide +kernel, rfl, by decide +kernel, by decide +kernel⟩
def r_chain_of : List PyData → (Res → Prop) → Prop := fun ds Ps => ∃ a b : Kd, ds = [emb a, emb b] ∧ (a.ok = true ∧ a.dep ≤ 40 ∧ a.sg ≤ 2) ∧ (b.ok = true ∧ b.dep ≤ 40 ∧ b.sg ≤ 2) ∧ (lets a = lets b → ∀ p ∈ words a, Ps (.fresh (embC (chainIn a b p)))) ∧ (lets a ≠ lets b → Ps (.dat .none))
theorem ok_chain_of (G : Mg K mg) (C_check_kind : Cal P w K mg base 43 "check_kind" ["value"] (spR K r_check_kind)) (C_are_alike_in : Cal P w K mg base 43 "are_alike_in" ["one", "other"] (spR K r_are_alike_in)) (C_chain_in : Cal P w K mg base 178 "chain_in" ["one", "other"] (spN K r_chain_in)) (F : Fun K "chain_of" "chain_of" st_chain_of f fd) : FnOk P w K mg base CX0 179 f fd ["one", "other"] (spN K r_chain_of) := by
  refine Fun.okN F sc_chain_of r_chain_of (by rintro _ _ ⟨_, _, rfl, _⟩; rfl) fun cdv A outer s H E hr ds r h => ?_
  have nd := sc_chain_of.nd
  obtain ⟨a, b, rfl, ⟨ha, da, sa⟩, ⟨hb, db, sb⟩, hP, hN⟩ := h
  refine ew_cons (es_expr (eg_call C_check_kind (hr.mono (by omega)) (ea_cons (ev_var 0 rfl) ea_nil) ⟨a, rfl, ha, da, rfl⟩)  (ew_cons (es_expr (eg_call C_check_kind (hr.mono (by omega)) (ea_cons (ev_var 1 rfl) ea_nil) ⟨b, rfl, hb, db, rfl⟩)  (ew_one (es_retNn (P := r) (en_if (et_val (eg_call C_are_alike_in (hr.mono (by omega)) (ea_cons (ev_var 0 rfl) (ea_cons (ev_var 1 rfl) ea_nil)) ⟨a, b, rfl, ⟨ha, da, by omega⟩, ⟨hb, db, by omega⟩, rfl⟩)) (fun hk => en_call C_chain_in (hr.mono (by omega)) (ea_cons (ev_var 0 rfl) (ea_cons (ev_var 1 rfl) ea_nil)) ⟨a, b, rfl, ⟨ha, da, sa⟩, ⟨hb, db, sb⟩, of_decide_eq_true hk, hP (of_decide_eq_true hk)⟩) (fun hk => (en_of ev_non).imp (by rintro _ rfl; exact hN (of_decide_eq_false hk)))) ?_)))))
  exact fun r h => h
/-! ### form_chain -/
abbrev st_form_chain : Stmt := top 57
theorem sc_form_chain : FnScope ["kind", "plain"] ["kind", "plain"] (defScope st_form_chain) := ⟨rfl, rfl, rfl, by decide +kernel, rfl, by decide +kernel, by decide +kernel⟩
def r_form_chain : List PyData → Res → Prop := fun ds r => ∃ (k : Kd) (p : Str), ds = [emb k, .str p] ∧ k.ok = true ∧ k.dep ≤ 40 ∧ k.sg ≤ 2 ∧ okw p = true ∧ r = .fresh (embC (shortened (toForm p k)))
theorem ok_form_chain (G : Mg K mg) (C_check_kind : Cal P w K mg base 43 "check_kind" ["value"] (spR K r_check_kind)) (C_check_word : Cal P w K mg base 2 "check_word" ["value"] (spR K r_check_word)) (C_shortened_in : Cal P w K mg base 177 "shortened_in" ["chain"] (spR K r_shortened_in)) (C_to_form : Cal P w K mg base 45 "to_form" ["kind", "plain"] (spR K (r_to_form 2))) (F : Fun K "form_chain" "form_chain" st_form_chain f fd) : FnOk P w K mg base CX0 178 f fd ["kind", "plain"] (spR K r_form_chain) := by
  refine Fun.okR F sc_form_chain r_form_chain (by rintro _ _ ⟨_, _, rfl, _⟩; rfl) fun cdv A outer s H E hr ds r h => ?_
  have nd := sc_form_chain.nd
  obtain ⟨k, p, rfl, hk, dk, sk, hp, rfl⟩ := h
  have p1 := (path_toForm hp k hk sk).mono (D' := 40) (n' := 130) (by omega) (by omega)
  have n1 := len2 p sk
  exact (ew_cons (es_expr (eg_call C_check_kind (hr.mono (by omega)) (ea_cons (ev_var 0 rfl) ea_nil) ⟨k, rfl, hk, dk, rfl⟩) (ew_cons (es_expr (eg_call C_check_word (hr.mono (by omega)) (ea_cons (ev_var 1 rfl) ea_nil) ⟨p, rfl, hp, rfl⟩) (ew_one (es_ret (eg_call C_shortened_in (hr.mono (by omega)) (ea_cons (EG.ev (eg_call C_to_form (hr.mono (by omega)) (ea_cons (ev_var 0 rfl) (ea_cons (ev_var 1 rfl) ea_nil)) ⟨k, p, rfl, hk, dk, sk, Nat.le_refl 2, rfl⟩)) ea_nil) ⟨toForm p k, _, _, rfl, p1, by omega, rfl⟩) rfl))))))
end
end PU
namespace PU
open PySem PySem.Spec PyProof.Rows L2 StX MM

/-! ## expressions that may take coins from the purse -/
abbrev cap : Nat := 1099511627776
def SameC (p : Addr) (H H' : Hp) : Prop := Same (hide (fun a => a = p) H) H'
section
variable {K : PySem.W.Frag} {p : Addr} {S : Addr → Prop} {H H1 H2 : Hp} {n m : Nat} {σ : L2.St} {δ : PEnv}
theorem sameC_of (s : Same H H1) : SameC p H H1 := fun b u h => s b u (hide_some h).2
theorem SameC.get (s : SameC p H H1) {b : Addr} {u : HO} (hb : b ≠ p) (h : H b = some u) : H1 b = some u := s b u (by rw [hide_get (S := fun a => a = p) hb]; exact h)
theorem SameC.trans (s : SameC p H H1) (t : SameC p H1 H2) : SameC p H H2 := fun b u h => t.get (hide_some h).1 (s b u h)
theorem hideC (hS : S p) (s : SameC p H H1) : Same (hide S H) (hide S H1) := fun b u h => by
  obtain ⟨c, h'⟩ := hide_some h
  rw [hide_get c]
  exact s.get (fun e => c (by rw [e]; exact hS)) h'
theorem SameC.some (s : SameC p H H1) (hp : H1 p ≠ none) {a : Addr} (h : H a ≠ none) : H1 a ≠ none := by
  by_cases c : a = p
  · subst c; exact hp
  · cases q : H a with
    | none => exact absurd q h
    | some o => rw [s.get c q]; exact fun z => nomatch z
theorem Pu.pS (h : Pu K p S (.coin n) H) : S p := h.1
theorem Pu.no (h : Pu K p S (.coin n) H) : H p ≠ none := by
  obtain ⟨_, x, y, z, w, e, _⟩ := h
  rw [e]; exact fun z => nomatch z
theorem Pu.up (h : Pu K p S (.coin n) H) (hm : n ≤ m) : Pu K p S (.coin m) H := by
  obtain ⟨hS, x, y, z, w, e, h1, h2, h3, h4, h5, h6⟩ := h
  exact ⟨hS, x, y, z, w, e, h1, h2, h3, h4, by omega, h6⟩
theorem Ok.mc (ok : Ok K S H σ δ) (hS : S p) (s : SameC p H H1) (hp : H1 p ≠ none) : Ok K S H1 σ δ :=
  { len := ok.len, hid := fun a h => s.some hp (ok.hid a h), dat := fun i d h => by
      obtain ⟨v, h1, h2⟩ := ok.dat i d h
      exact ⟨v, h1, h2.m (hideC hS s)⟩ }
end
def EC (X : Cx) (i : Nat) (e : Expr) (δ : PEnv) (c : Nat) (A : PyData → Prop) : Prop :=
  ∀ (p : Addr) (S : Addr → Prop) (σ : L2.St) (H : Hp) (Q : VK) (n : Nat), Ok X.K S H σ δ → σ[i]? = some (some (.ref p)) → Pu X.K p S (.coin n) H → n + c ≤ cap →
    (∀ d v H', A d → SameC p H H' → Pu X.K p S (.coin (n + c)) H' → Rep X.K (hide S H') v d → Q v H') → sE X e σ H Q
def EAC (X : Cx) (i : Nat) (es : List Expr) (δ : PEnv) (c : Nat) (A : List PyData → Prop) : Prop :=
  ∀ (p : Addr) (S : Addr → Prop) (σ : L2.St) (H : Hp) (Q : List V → Hp → Prop) (n : Nat), Ok X.K S H σ δ → σ[i]? = some (some (.ref p)) → Pu X.K p S (.coin n) H → n + c ≤ cap →
    (∀ ds vs H', A ds → SameC p H H' → Pu X.K p S (.coin (n + c)) H' → RepAll X.K (hide S H') vs ds → Q vs H') → sA X es σ H Q
def TC (X : Cx) (i : Nat) (e : Expr) (δ : PEnv) (c : Nat) (A : Bool → Prop) : Prop :=
  ∀ (p : Addr) (S : Addr → Prop) (σ : L2.St) (H : Hp) (Q : Bool → Hp → Prop) (n : Nat), Ok X.K S H σ δ → σ[i]? = some (some (.ref p)) → Pu X.K p S (.coin n) H → n + c ≤ cap →
    (∀ b H', A b → SameC p H H' → Pu X.K p S (.coin (n + c)) H' → Q b H') → sT X e σ H Q
def BC (X : Cx) (i : Nat) (e : Expr) (δ : PEnv) (c : Nat) (A : Bool → Prop) : Prop :=
  ∀ (p : Addr) (S : Addr → Prop) (σ : L2.St) (H : Hp) (Q : Bool → Hp → Prop) (n : Nat), Ok X.K S H σ δ → σ[i]? = some (some (.ref p)) → Pu X.K p S (.coin n) H → n + c ≤ cap →
    (∀ b H', A b → SameC p H H' → Pu X.K p S (.coin (n + c)) H' → Q b H') → sW X e σ H Q
/-- what a def that takes coins does: the purse comes first -/
def spC (K : PySem.W.Frag) (c : Nat) (f : List PyData → (PyData → Prop) → Prop) : Sp := fun vs H Q _ => ∃ (S : Addr → Prop) (p : Addr) (ds : List PyData) (vs0 : List V) (A : PyData → Prop) (n : Nat), (∀ a, S a → H a ≠ none) ∧ vs = .ref p :: vs0 ∧ RepAll K (hide S H) vs0 ds ∧ Pu K p S (.coin n) H ∧ n + c ≤ cap ∧ f ds A ∧
  ∀ d v H', A d → SameC p H H' → Pu K p S (.coin (n + c)) H' → Rep K (hide S H') v d → Q v H'
section
variable {X : Cx} {i : Nat} {δ : PEnv} {e a b c : Expr} {es : List Expr} {pos : Pos} {d x y : PyData} {ds xs ys : List PyData} {A B C : PyData → Prop} {c1 c2 k : Nat}
theorem ec_of (h : EV X e δ d) : EC X i e δ 0 (fun z => z = d) := fun p S σ H Q n ok hp pu hc q => h S σ H Q ok fun v H' s g => q d v H' rfl (sameC_of s) (pu.m s) g
theorem EC.imp (h : EC X i e δ k A) (hA : ∀ z, A z → B z) : EC X i e δ k B := fun p S σ H Q n ok hp pu hc q => h p S σ H Q n ok hp pu hc fun d v H' ha s pu' g => q d v H' (hA d ha) s pu' g
theorem EC.up (h : EC X i e δ c1 A) (hk : c1 ≤ c2) : EC X i e δ c2 A := fun p S σ H Q n ok hp pu hc q => h p S σ H Q n ok hp pu (by omega) fun d v H' ha s pu' g => q d v H' ha s (pu'.up (by omega)) g
theorem eac_nil : EAC X i [] δ 0 (fun l => l = []) := fun p S σ H Q n ok hp pu hc q => sA_of pa_nil (q [] [] H rfl (sameC_of (Same.refl H)) pu .nil)
theorem eac_cons {L : List PyData → Prop} (h : EC X i e δ c1 A) (h2 : EAC X i es δ c2 L) (hs : starEach (e :: es) X.env = (false, eval e X.env) :: starEach es X.env := by rfl) : EAC X i (e :: es) δ (c1 + c2) (fun l => ∃ z t, l = z :: t ∧ A z ∧ L t) := fun p S σ H Q n ok hp pu hc q => by
  refine sA_of (pa_cons pe_s pa_s hs) ?_
  refine h p S σ H _ n ok hp pu (by omega) fun d v H1 ha s1 pu1 g1 => ?_
  refine h2 p S σ H1 _ (n + c1) (ok.mc pu.pS s1 pu1.no) hp pu1 (by omega) fun ds vs H2 hl s2 pu2 g2 => ?_
  exact q (d :: ds) (v :: vs) H2 ⟨d, ds, rfl, ha, hl⟩ (s1.trans s2) (pu2.up (by omega)) (.cons (g1.m (hideC pu.pS s2)) g2)
theorem EAC.imp {L M : List PyData → Prop} (h : EAC X i es δ k L) (hA : ∀ z, L z → M z) : EAC X i es δ k M := fun p S σ H Q n ok hp pu hc q => h p S σ H Q n ok hp pu hc fun d v H' ha s pu' g => q d v H' (hA d ha) s pu' g
/-- f(purse, ..) -/
theorem ec_call {m cost : Nat} {f x : Str} {pf px : Pos} {ps : List Str} {L : List PyData → Prop} {rel : List PyData → (PyData → Prop) → Prop} (C : Cal X.prog X.w X.K X.mg X.base m f ps (spC X.K cost rel)) (hr : Room m X.A) (ha : EAC X i es δ k L) (hf : ∀ ds, L ds → rel ds A)
    (hg : Gl X f := by rfl) (hNi : X.N[i]? = some x := by rfl) (hv : Vis X.env.scope x := by first | exact Or.inl rfl | exact Or.inr (Or.inl rfl) | exact Or.inr (Or.inr rfl)) (h1 : (x == ("__debug__" : Str)) = false := by decide) (h2 : (x == ("__classdict__" : Str)) = false := by decide)
    (hdf : (f == ("__debug__" : Str)) = false := by decide) (he : starEach (.Name x px :: es) X.env = (false, eval (.Name x px) X.env) :: starEach es X.env := by rfl) (hpl : (backTo pos (starEach es X.env)).any (·.1) = false := by rfl) :
    EC X i (.Call (.Name f pf) (.Name x px :: es) [] pos) δ (k + cost) A := fun p S σ H Q n ok hp pu hc q => by
  obtain ⟨fa, fd, hm, hk, hbd, F⟩ := C.ex
  refine sE_of (pe_call F hr hg hm hk hbd .nil pass0 (pa_cons (pe_var hNi hv h1 h2) pa_s he) hdf he hpl) ?_
  refine ⟨_, hp, ?_⟩
  refine ha p S σ H _ n ok hp pu (by omega) fun ds vs H1 hl s1 pu1 g1 => ?_
  refine ⟨S, p, ds, vs, A, n + k, (ok.mc pu.pS s1 pu1.no).hid, ?_, g1, pu1, by omega, hf ds hl, fun d v H' hA s2 pu2 g2 => q d v H' hA (s1.trans s2) (pu2.up (by omega)) g2⟩
  rw [List.append_nil]
/-- i + j -/
theorem ec_add (ha : EC X i a δ c1 A) (hb : EC X i b δ c2 B) (hA : ∀ z, A z → ∃ j : Int, z = .int j) (hB : ∀ z, B z → ∃ j : Int, z = .int j) : EC X i (.BinOp a .Add b pos) δ (c1 + c2) (fun z => ∃ j l : Int, z = .int (j + l) ∧ A (.int j) ∧ B (.int l)) := fun p S σ H Q n ok hp pu hc q => by
  refine sE_of (pe_op op_add pe_s pe_s) ?_
  refine ha p S σ H _ n ok hp pu (by omega) fun d v H1 hd s1 pu1 g1 => ?_
  refine hb p S σ H1 _ (n + c1) (ok.mc pu.pS s1 pu1.no) hp pu1 (by omega) fun d' v' H2 hd' s2 pu2 g2 => ?_
  obtain ⟨j, rfl⟩ := hA d hd
  obtain ⟨l, rfl⟩ := hB d' hd'
  cases g1; cases g2
  exact ⟨j, l, rfl, rfl, q _ _ H2 ⟨j, l, rfl, hd, hd'⟩ (s1.trans s2) (pu2.up (by omega)) (.int _)⟩
/-- s + t, texts -/
theorem ec_catS (ha : EC X i a δ c1 A) (hb : EC X i b δ c2 B) (hA : ∀ z, A z → ∃ j : Str, z = .str j ∧ j.length ≤ 1000) (hB : ∀ z, B z → ∃ j : Str, z = .str j ∧ j.length ≤ 1000) : EC X i (.BinOp a .Add b pos) δ (c1 + c2) (fun z => ∃ j l : Str, z = .str (j ++ l) ∧ A (.str j) ∧ B (.str l)) := fun p S σ H Q n ok hp pu hc q => by
  refine sE_of (pe_op op_add_str pe_s pe_s) ?_
  refine ha p S σ H _ n ok hp pu (by omega) fun d v H1 hd s1 pu1 g1 => ?_
  refine hb p S σ H1 _ (n + c1) (ok.mc pu.pS s1 pu1.no) hp pu1 (by omega) fun d' v' H2 hd' s2 pu2 g2 => ?_
  obtain ⟨j, rfl, hj⟩ := hA d hd
  obtain ⟨l, rfl, hl⟩ := hB d' hd'
  cases g1; cases g2
  exact ⟨j, l, rfl, rfl, le_line (by omega), q _ _ H2 ⟨j, l, rfl, hd, hd'⟩ (s1.trans s2) (pu2.up (by omega)) (.str _)⟩
theorem ec_if {T : Bool → Prop} (hc' : TC X i c δ c1 T) (h1 : T true → EC X i a δ c2 A) (h2 : T false → EC X i b δ c2 A) : EC X i (.IfExp c a b pos) δ (c1 + c2) A := fun p S σ H Q n ok hp pu hc q => by
  refine sE_of (pe_ifExp pt_s pe_s pe_s) ?_
  refine hc' p S σ H _ n ok hp pu (by omega) fun k H1 hk s1 pu1 => ?_
  have ok1 := ok.mc pu.pS s1 pu1.no
  cases k with
  | true => exact iteT (h1 hk p S σ H1 _ (n + c1) ok1 hp pu1 (by omega) fun d v H2 hA s2 pu2 g => q d v H2 hA (s1.trans s2) (pu2.up (by omega)) g)
  | false => exact iteF (h2 hk p S σ H1 _ (n + c1) ok1 hp pu1 (by omega) fun d v H2 hA s2 pu2 g => q d v H2 hA (s1.trans s2) (pu2.up (by omega)) g)
/-- a list or a text at a drawn place -/
theorem ec_ixL (ha : EC X i a δ c1 A) (hb : EC X i b δ c2 B) (hA : ∀ z, A z → ∃ l : List PyData, z = .list l) (hB : ∀ z, B z → ∃ j : Int, z = .int j) (h : ∀ (l : List PyData) (j : Int), A (.list l) → B (.int j) → ∃ d, atI l j = some d ∧ C d) (hs : PlainIx b := by exact fun _ _ => rfl) : EC X i (.Subscript a b pos) δ (c1 + c2) C := fun p S σ H Q n ok hp pu hc q => by
  refine sE_of (pe_ix ix_list pe_s pe_s hs) ?_
  refine ha p S σ H _ n ok hp pu (by omega) fun d v H1 hd s1 pu1 g1 => ?_
  refine hb p S σ H1 _ (n + c1) (ok.mc pu.pS s1 pu1.no) hp pu1 (by omega) fun d' v' H2 hd' s2 pu2 g2 => ?_
  obtain ⟨l, rfl⟩ := hA d hd
  obtain ⟨j, rfl⟩ := hB d' hd'
  obtain ⟨z, hz, hC⟩ := h l j hd hd'
  cases g2
  have g3 := g1.m (hideC pu.pS s2)
  cases g3 with
  | lst h1 h2 =>
    obtain ⟨jj, e1, e2, e3, e4, e5⟩ := atI_get hz
    obtain ⟨u, f1, f2⟩ := h2.get e2
    refine ⟨_, _, j, u, rfl, rfl, SqL.of (hide_some h1).2, ?_, q z _ _ hC (s1.trans s2) (pu2.up (by omega)) f2⟩
    unfold atI at hz ⊢
    rw [h2.length]
    cases c : ixN l.length j with
    | none => rw [c] at hz; cases hz
    | some m =>
      have := (ixN_seq c).1
      rw [e1] at this
      cases this
      exact f1
theorem ec_ixS (ha : EC X i a δ c1 A) (hb : EC X i b δ c2 B) (hA : ∀ z, A z → ∃ l : Str, z = .str l ∧ l.length ≤ 1000) (hB : ∀ z, B z → ∃ j : Int, z = .int j) (h : ∀ (l : Str) (j : Int), A (.str l) → B (.int j) → ∃ u, atI l.cps.toList j = some u ∧ C (.str ⟨#[u]⟩)) (hs : PlainIx b := by exact fun _ _ => rfl) : EC X i (.Subscript a b pos) δ (c1 + c2) C := fun p S σ H Q n ok hp pu hc q => by
  refine sE_of (pe_ix ix_str pe_s pe_s hs) ?_
  refine ha p S σ H _ n ok hp pu (by omega) fun d v H1 hd s1 pu1 g1 => ?_
  refine hb p S σ H1 _ (n + c1) (ok.mc pu.pS s1 pu1.no) hp pu1 (by omega) fun d' v' H2 hd' s2 pu2 g2 => ?_
  obtain ⟨l, rfl, hl⟩ := hA d hd
  obtain ⟨j, rfl⟩ := hB d' hd'
  obtain ⟨z, hz, hC⟩ := h l j hd hd'
  cases g1; cases g2
  exact ⟨l, j, z, rfl, rfl, le_line (by omega), hz, q _ _ H2 hC (s1.trans s2) (pu2.up (by omega)) (.str _)⟩
theorem ec_tup {L : List PyData → Prop} {kk} (ha : EAC X i es δ k L) (hl : ∀ l, L l → l.length ≤ 1000) : EC X i (.Tuple es kk pos) δ k (fun z => ∃ l, z = .tuple l ∧ L l) := fun p S σ H Q n ok hp pu hc q => by
  refine sE_of (pe_tup pa_s) ?_
  refine ha p S σ H _ n ok hp pu hc fun ds vs H1 hL s1 pu1 g1 => ?_
  have ok1 := ok.mc pu.pS s1 pu1.no
  refine ⟨by rw [g1.length]; exact le_line (by have := hl ds hL; omega), fun a ha' => ?_⟩
  have nn := same_new ha' (.tup vs)
  refine q _ _ _ ⟨ds, rfl, hL⟩ (s1.trans (sameC_of nn)) (pu1.m nn) (.tup (.inl (.inl ?_)) (RepAll.m (hide_same nn) g1))
  rw [hide_get (ok1.no ha'), upd_same]
/-- a compared with b, as a value and as a test -/
theorem ec_cmpI {op : CmpOp} {g : Int → Int → Bool} (hc' : ∀ j l : Int, CmpR X op (.int j) (.int l) (g j l)) (hu : ∃ r, OpR X (compareOp op) r ∧ ∀ (S : Addr → Prop) (H : Hp) (j l : Int) (Q : VK), Q (.bl (g j l)) H → r (.int j) (.int l) H Q) (ha : EC X i a δ c1 A) (hb : EC X i b δ c2 B) (hA : ∀ z, A z → ∃ j : Int, z = .int j) (hB : ∀ z, B z → ∃ j : Int, z = .int j)
    (hm : behindInMarks op b = false := by first | exact nomark _ | rfl) : EC X i (.Compare a [op] [b] pos) δ (c1 + c2) (fun z => ∃ k : Bool, z = .bool k) := fun p S σ H Q n ok hp pu hc q => by
  obtain ⟨r, ho, hr⟩ := hu
  refine sE_of (pe_cmpR ho pe_s pe_s hm) ?_
  refine ha p S σ H _ n ok hp pu (by omega) fun d v H1 hd s1 pu1 g1 => ?_
  refine hb p S σ H1 _ (n + c1) (ok.mc pu.pS s1 pu1.no) hp pu1 (by omega) fun d' v' H2 hd' s2 pu2 g2 => ?_
  obtain ⟨j, rfl⟩ := hA d hd
  obtain ⟨l, rfl⟩ := hB d' hd'
  cases g1; cases g2
  exact hr S H2 j l _ (q _ _ H2 ⟨_, rfl⟩ (s1.trans s2) (pu2.up (by omega)) (.bl _))
end
end PU
namespace PU
open PySem PySem.Spec PyProof.Rows L2 StX MM
section
variable {X : Cx} {i : Nat} {δ : PEnv} {e a b c : Expr} {es : List Expr} {pos : Pos} {d x y : PyData} {ds xs ys : List PyData} {A B C : PyData → Prop} {T U : Bool → Prop} {c1 c2 k : Nat}
theorem tc_of {v : Bool} (h : ET X e δ v) : TC X i e δ 0 (fun z => z = v) := fun p S σ H Q n ok hp pu hc q => h S σ H Q ok fun H' s => q v H' rfl (sameC_of s) (pu.m s)
theorem TC.imp (h : TC X i e δ k T) (hA : ∀ z, T z → U z) : TC X i e δ k U := fun p S σ H Q n ok hp pu hc q => h p S σ H Q n ok hp pu hc fun d H' ha s pu' => q d H' (hA d ha) s pu'
theorem TC.up (h : TC X i e δ c1 T) (hk : c1 ≤ c2) : TC X i e δ c2 T := fun p S σ H Q n ok hp pu hc q => h p S σ H Q n ok hp pu (by omega) fun d H' ha s pu' => q d H' ha s (pu'.up (by omega))
theorem tc_val (h : EC X i e δ k (fun z => ∃ v : Bool, z = .bool v ∧ T v)) (he : ∀ whole, isTrue e X.env whole = (do let v ← whole; standAt e.pos; holding [v] (truthy v)) := by intro _; rfl) : TC X i e δ k T := fun p S σ H Q n ok hp pu hc q => by
  refine sT_of (pt_val pe_s he) ?_
  refine h p S σ H _ n ok hp pu hc fun d v H1 hA s1 pu1 g1 => ?_
  obtain ⟨u, rfl, hT⟩ := hA
  cases g1
  exact ⟨u, rfl, q u H1 hT s1 pu1⟩
theorem tc_eqI (ha : EC X i a δ c1 A) (hb : EC X i b δ c2 B) (hA : ∀ z, A z → ∃ j : Int, z = .int j) (hB : ∀ z, B z → ∃ j : Int, z = .int j) (hm : behindInMarks .Eq b = false := by first | exact nomark _ | rfl) : TC X i (.Compare a [.Eq] [b] pos) δ (c1 + c2) (fun _ => True) := fun p S σ H Q n ok hp pu hc q => by
  refine sT_of (pt_cmpR op_eq pe_s pe_s hm) ?_
  refine ha p S σ H _ n ok hp pu (by omega) fun d v H1 hd s1 pu1 g1 => ?_
  refine hb p S σ H1 _ (n + c1) (ok.mc pu.pS s1 pu1.no) hp pu1 (by omega) fun d' v' H2 hd' s2 pu2 g2 => ?_
  obtain ⟨j, rfl⟩ := hA d hd
  obtain ⟨l, rfl⟩ := hB d' hd'
  cases g1; cases g2
  exact ⟨rfl, _, rfl, q _ H2 trivial (s1.trans s2) (pu2.up (by omega))⟩
theorem ec_eqI (ha : EC X i a δ c1 A) (hb : EC X i b δ c2 B) (hA : ∀ z, A z → ∃ j : Int, z = .int j) (hB : ∀ z, B z → ∃ j : Int, z = .int j) (hm : behindInMarks .Eq b = false := by first | exact nomark _ | rfl) : EC X i (.Compare a [.Eq] [b] pos) δ (c1 + c2) (fun z => ∃ v : Bool, z = .bool v) := fun p S σ H Q n ok hp pu hc q => by
  refine sE_of (pe_cmpR op_eq pe_s pe_s hm) ?_
  refine ha p S σ H _ n ok hp pu (by omega) fun d v H1 hd s1 pu1 g1 => ?_
  refine hb p S σ H1 _ (n + c1) (ok.mc pu.pS s1 pu1.no) hp pu1 (by omega) fun d' v' H2 hd' s2 pu2 g2 => ?_
  obtain ⟨j, rfl⟩ := hA d hd
  obtain ⟨l, rfl⟩ := hB d' hd'
  cases g1; cases g2
  exact ⟨rfl, q _ _ H2 ⟨_, rfl⟩ (s1.trans s2) (pu2.up (by omega)) (.bl _)⟩
theorem tc_not (h : TC X i e δ k T) : TC X i (.UnaryOp .Not e pos) δ k (fun v => T (!v)) := fun p S σ H Q n ok hp pu hc q => by
  refine sT_of (pt_not pt_s) ?_
  exact h p S σ H _ n ok hp pu hc fun v H1 hT s1 pu1 => q _ H1 (show T (!!v) by rw [Bool.not_not]; exact hT) s1 pu1
theorem tc_bw (h : BC X i e δ k T) : TC X i e δ k T := fun p S σ H Q n ok hp pu hc q => sT_of pw_s.pt (h p S σ H Q n ok hp pu hc q)
theorem bc_and1 (h : TC X i a δ k T) : BC X i (.BoolOp .And [a] pos) δ k T := fun p S σ H Q n ok hp pu hc q => sW_of (pw_and1 pt_s) (h p S σ H Q n ok hp pu hc q)
theorem bc_or1 (h : TC X i a δ k T) : BC X i (.BoolOp .Or [a] pos) δ k T := fun p S σ H Q n ok hp pu hc q => sW_of (pw_or1 pt_s) (h p S σ H Q n ok hp pu hc q)
theorem bc_and {rest : List Expr} (h : TC X i a δ c1 T) (h2 : T true → BC X i (.BoolOp .And (b :: rest) pos) δ c2 U) : BC X i (.BoolOp .And (a :: b :: rest) pos) δ (c1 + c2) (fun v => (v = false ∧ T false) ∨ (T true ∧ U v)) := fun p S σ H Q n ok hp pu hc q => by
  refine sW_of (pw_and pt_s pw_s) ?_
  refine h p S σ H _ n ok hp pu (by omega) fun v H1 hT s1 pu1 => ?_
  cases v with
  | false => exact iteF (q _ H1 (.inl ⟨rfl, hT⟩) s1 (pu1.up (by omega)))
  | true => exact iteT (h2 hT p S σ H1 _ (n + c1) (ok.mc pu.pS s1 pu1.no) hp pu1 (by omega) fun v H2 hU s2 pu2 => q _ H2 (.inr ⟨hT, hU⟩) (s1.trans s2) (pu2.up (by omega)))
theorem bc_or {rest : List Expr} (h : TC X i a δ c1 T) (h2 : T false → BC X i (.BoolOp .Or (b :: rest) pos) δ c2 U) : BC X i (.BoolOp .Or (a :: b :: rest) pos) δ (c1 + c2) (fun v => (v = true ∧ T true) ∨ (T false ∧ U v)) := fun p S σ H Q n ok hp pu hc q => by
  refine sW_of (pw_or pt_s pw_s) ?_
  refine h p S σ H _ n ok hp pu (by omega) fun v H1 hT s1 pu1 => ?_
  cases v with
  | true => exact iteT (q _ H1 (.inl ⟨rfl, hT⟩) s1 (pu1.up (by omega)))
  | false => exact iteF (h2 hT p S σ H1 _ (n + c1) (ok.mc pu.pS s1 pu1.no) hp pu1 (by omega) fun v H2 hU s2 pu2 => q _ H2 (.inr ⟨hT, hU⟩) (s1.trans s2) (pu2.up (by omega)))
/-- a slice of a list that took coins -/
theorem ec_slice {lo hi : Option Expr} {l h : Option Int} {p2 : Pos} (ha : EC X i a δ k A) (hA : ∀ z, A z → ∃ l : List PyData, z = .list l) (hl : EO X lo δ l) (hh : EO X hi δ h) (hB : ∀ ds, A (.list ds) → B (.list (cutD ds l h))) : EC X i (.Subscript a (.Slice lo hi none p2) pos) δ k B := fun p S σ H Q n ok hp pu hc q => by
  refine sE_of (pe_slice sl_list pe_s po_s po_s) ?_
  refine ha p S σ H _ n ok hp pu hc fun d v H1 hd s1 pu1 g1 => ?_
  obtain ⟨ds, rfl⟩ := hA d hd
  have ok1 := ok.mc pu.pS s1 pu1.no
  refine hl S σ H1 _ ok1 fun H2 s2 => ?_
  refine hh S σ H2 _ (ok1.m s2) fun H3 s3 => ?_
  cases (show Rep X.K (hide S H3) v (.list ds) from Rep.m (hide_same (s2.trans s3)) g1) with
  | lst h1 h2 =>
    refine ⟨_, _, rfl, SqL.of (hide_some h1).2, fun u hu => ?_⟩
    have nn := same_new hu
    have ok3 := (ok1.m s2).m s3
    refine q _ _ _ (hB ds hd) (s1.trans (sameC_of ((s2.trans s3).trans (nn _)))) ((((pu1.m s2).m s3).m (nn _))) (.lst ?_ (RepAll.m (hide_same (nn _)) (rep_cut h2 l h)))
    rw [hide_get (ok3.no hu), upd_same]
/-- sorted(texts) -/
theorem ec_sorted {nm : Str} {pf : Pos} (ha : EC X i a δ k A) (hA : ∀ z, A z → ∃ l : List Str, z = .list (strsD l) ∧ l.length < 64) (hB : ∀ l m : List Str, A (.list (strsD l)) → m.Perm l → B (.list (strsD m))) (hm : X.mg nm = none) (hv : bootBuiltins nm = some (.builtin "sorted")) (hg : Gl X nm := by rfl) (hn : nm ≠ "__name__" := by decide) (hdb : (nm == ("__debug__" : Str)) = false := by decide)
    (hs : starEach [a] X.env = [(false, eval a X.env)] := by rfl) (hpl : (backTo pos (starEach [] X.env)).any (·.1) = false := by rfl) : EC X i (.Call (.Name nm pf) [a] [] pos) δ k B := fun p S σ H Q n ok hp pu hc q => by
  refine sE_of (pe_callB cr_sortedS hg hm hv (pa_cons pe_s pa_nil hs) hn hdb hs hpl) ?_
  refine ha p S σ H _ n ok hp pu hc fun d v H1 hd s1 pu1 g1 => ?_
  obtain ⟨l, rfl, hl⟩ := hA d hd
  have ok1 := ok.mc pu.pS s1 pu1.no
  cases g1 with
  | @lst a' vs _ h1 h2 =>
    have hvs : vs = l.map V.str := rep_strs h2
    subst hvs
    refine ⟨a', l, rfl, SqL.of (hide_some h1).2, hl, fun ys u hperm _ hu => ?_⟩
    have nn := same_new hu
    refine q _ _ _ (hB l ys hd hperm) (s1.trans (sameC_of (nn _))) (pu1.m (nn _)) (.lst ?_ (strs_rep ys))
    rw [hide_get (ok1.no hu), upd_same]
/-- sep.join(texts) -/
theorem ec_join {apos : Pos} {z : Str} {j : Nat} (ha : EC X i a δ k A) (hA : ∀ w, A w → ∃ l : List Str, w = .list (strsD l) ∧ l.length ≤ 1000 ∧ (l.map (·.length)).sum ≤ 1000) (hz : z.length ≤ 10) (hB : ∀ l : List Str, A (.list (strsD l)) → B (.str (Txt.join z l)))
    (hs : starEach [a] X.env = [(false, eval a X.env)] := by rfl) (hbase : attributeBase (.Constant (.str z) j pos) "join" X.env (eval (.Constant (.str z) j pos) X.env) = eval (.Constant (.str z) j pos) X.env := by rfl) {cpos : Pos} (hline : (apos.endLine == cpos.line) = true := by rfl) :
    EC X i (.Call (.Attribute (.Constant (.str z) j pos) "join" apos) [a] [] cpos) δ k B := fun p S σ H Q n ok hp pu hc q => by
  refine sE_of (pe_join pe_str pe_s hs hbase hline) ?_
  refine ⟨⟨z, rfl⟩, ?_⟩
  refine ha p S σ H _ n ok hp pu hc fun d v H1 hd s1 pu1 g1 => ?_
  obtain ⟨l, rfl, hl, hsum⟩ := hA d hd
  cases g1 with
  | @lst a' vs _ h1 h2 =>
    have hvs : vs = l.map V.str := rep_strs h2
    subst hvs
    refine ⟨z, a', l, rfl, rfl, .inl (SqL.of (hide_some h1).2), ?_, q _ _ _ (hB l hd) s1 pu1 (.str _)⟩
    have : l.length * z.length ≤ 1000 * 10 := Nat.mul_le_mul hl hz
    omega
end
end PU
namespace PU
open PySem PySem.Spec PyProof.Rows L2 StX MM
theorem wipe_other {σ : L2.St} {i : Nat} : ∀ {vs : List Nat}, i ∉ vs → (wipe σ vs)[i]? = σ[i]?
  | [], _ => rfl
  | v :: vs, h => by
    show ((wipe σ vs).set v none)[i]? = _
    rw [List.getElem?_set_ne (fun e => h (by rw [e]; exact List.mem_cons_self)), wipe_other fun z => h (List.mem_cons_of_mem _ z)]
def ECB (X : Cx) (scope : Scope) (i : Nat) (e : Expr) (δ : PEnv) (c : Nat) (A : PyData → Prop) : Prop := ∀ (s : Shared) (H : Hp) (C : Addr) (cl : List (Str × Addr)) (fp : List Addr), EC (X.blk s H scope (compEnvC scope cl C X.env) fp) i e δ c A
section
variable {X : Cx} {pi : Nat} {δ : PEnv} {e a b c : Expr} {es : List Expr} {pos : Pos} {d x y : PyData} {ds xs ys : List PyData} {A B C : PyData → Prop} {c1 c2 k : Nat}
/-- [elt for x in iter], where elt takes coins -/
theorem ec_lc {elt iter : Expr} {scope : Scope} {x : Str} {px : Pos} (j : Nat) (hN : X.N.Nodup) (hi : EI X (.Name x px) iter δ ds) (hb : blkC X.N X.env.scope scope [(x, j)] = true)
    (hstep : ∀ d ∈ ds, ECB X scope pi elt ((wipeD δ [j]).set j (some d)) k A) (hlen : ds.length ≤ 1000) (hne : pi ≠ j := by decide)
    (hNi : X.N[j]? = some x := by rfl) (hc : X.calm = true := by rfl) (hg : ∀ (s : Shared) (H : Hp) (C : Addr) (cl : List (Str × Addr)) (fp : List Addr), PG (X.blk s H scope (compEnvC scope cl C X.env) fp) (.Name x px) (gName j) := by exact fun _ _ _ _ _ => pg_name (by assumption) rfl (Or.inl rfl))
    (hs : ∀ x, foldedSetIterable iter X.env x = pure x := by intro _; rfl) :
    EC X pi (.ListComp elt [⟨.Name x px, iter, [], 0⟩] scope pos) δ (ds.length * k) (fun z => ∃ l, z = .list l ∧ l.length = ds.length ∧ ∀ y ∈ l, A y) := fun p S σ H Q n okE hp pu hcap q => by
  refine sE_of (pe_lc hc hN pi_s (blkOk_by hb) hg (fun _ _ _ _ _ => pts_nil) pe_sB hs) ?_
  refine hi S σ H _ okE fun J H1 s1 W => ?_
  intro D hD
  have hn0 := same_new hD
  have ok1 := okE.m s1
  have pu1 := pu.m s1
  have hDp : D ≠ p := fun e => pu1.no (by rw [← e]; exact hD)
  let Pv : Nat → Hp → Prop := fun i H2 => SameC p H1 H2 ∧ Pu X.K p S (.coin (n + i * k)) H2 ∧ ∃ vs, H2 D = some (.lst vs) ∧ ∃ l, l.length = i ∧ (∀ y ∈ l, A y) ∧ RepAll X.K (hide (fun a => S a ∨ a = D) H2) vs l
  refine ⟨fun i m H2 => m = ds.length - i ∧ i ≤ ds.length ∧ Pv i H2, ⟨ds.length, by simp, Nat.zero_le _, sameC_of (hn0 _), ?_, [], upd_same, [], rfl, fun y hy => (nomatch hy), .nil⟩, ?_⟩
  · rw [Nat.zero_mul]; exact pu1.m (hn0 _)
  rintro i m H2 ⟨rfl, hle, s2, pu2, vs, hv, l, hll, hA, hr⟩
  have sS : Same (hide S H1) (hide S H2) := hideC pu.pS s2
  have okH : Ok X.K (fun a => S a ∨ a = D) H2 σ δ := by
    refine { len := ok1.len, hid := fun a ha => ?_, dat := fun j d hj => ?_ }
    · rcases ha with ha | ha
      · exact s2.some pu2.no (ok1.hid a ha)
      · subst ha; rw [hv]; exact fun z => nomatch z
    · obtain ⟨v, h1, h2⟩ := ok1.dat j d hj
      refine ⟨v, h1, h2.m fun b u hb => ?_⟩
      obtain ⟨c, hb'⟩ := hide_some hb
      rw [hide_get (fun z => z.elim c fun e => by subst e; rw [hD] at hb'; cases hb')]
      exact s2.get (fun e => c (by rw [e]; exact pu.pS)) hb'
  by_cases hlt : i < ds.length
  · refine .inr ⟨W.go H2 i sS hlt, Pv (i + 1), fun H' p' => ⟨ds.length - (i + 1), by omega, rfl, hlt, p'⟩, fun x H' hy => ?_⟩
    obtain ⟨s3, d, hd, hx⟩ := W.yld (fun a => S a ∨ a = D) H2 i x H' okH.hid (fun a ha => ha.elim .inl fun e => .inr (by rw [e]; exact hD)) sS hlt hy
    refine tgt_name (i := j) (vs := [j]) (by simp) (fun a => S a ∨ a = D) σ H' x (wipeD δ [j]) _ hx ((okH.m s3).wipe _) fun σ2 hw2 ok2 => ⟨hw2, ?_⟩
    refine iteT (B := Pv (i + 1) H') ?_
    intro sh Hh C cl fp
    have hp2 : σ2[pi]? = some (some (.ref p)) := by
      have hnj : pi ∉ [j] := by simpa using hne
      rw [← wipe_other (σ := σ2) hnj, hw2, wipe_other hnj]
      exact hp
    have pu3 : Pu X.K p (fun a => S a ∨ a = D) (.coin (n + i * k)) H' := by
      obtain ⟨q1, q2⟩ := pu2.m s3
      exact ⟨.inl q1, q2⟩
    have hik : i * k + k ≤ ds.length * k := by
      rw [← Nat.succ_mul]; exact Nat.mul_le_mul_right k hlt
    refine hstep d (List.mem_of_getElem? hd) sh Hh C cl fp p (fun a => S a ∨ a = D) σ2 H' _ (n + i * k) ok2 hp2 pu3 (by omega) fun y u H4 hAy s5 pu5 g5 => ?_
    have s6 : SameC p H2 H4 := (sameC_of s3).trans s5
    have hD4 := s6.get hDp hv
    have hrl := hr.length
    refine ⟨vs, hD4, by rw [hrl, hll]; exact Nat.lt_of_lt_of_le hlt (le_line (by omega)), fun b u hb => ?_, ?_, vs ++ [u], upd_same, l ++ [y], by rw [List.length_append, hll] <;> rfl, fun z hz => ?_, ?_⟩
    · obtain ⟨cb, hb'⟩ := hide_some hb
      rw [upd_ne (ne_of_none hb' hD)]
      exact s6.get cb (s2.get cb hb')
    · obtain ⟨q1, x1, x2, x3, x4, q2, q3⟩ := pu5
      refine ⟨pu.pS, x1, x2, x3, x4, by rw [upd_ne (fun e => hDp e.symm)]; exact q2, ?_⟩
      rw [Nat.succ_mul, ← Nat.add_assoc]
      exact q3
    · rcases List.mem_append.mp hz with z | z
      · exact hA _ z
      · rw [List.mem_singleton] at z; subst z; exact hAy
    · have e0 : hide (fun a => S a ∨ a = D) (upd H4 D (.lst (vs ++ [u]))) = hide (fun a => S a ∨ a = D) H4 := hide_upd (.inr rfl)
      rw [e0]
      exact (hr.m (hideC (S := fun a => S a ∨ a = D) (.inl pu.pS) s6)).append (.cons g5 .nil)
  · have e : i = ds.length := by omega
    subst e
    refine .inl ⟨W.stop H2 sS, q (.list l) _ _ ⟨l, rfl, hll, hA⟩ ((sameC_of s1).trans s2) pu2 (.lst (xs := vs) ?_ (hr.m (hide_anti fun a z => .inl z)))⟩
    rw [hide_get (ok1.no hD)]
    exact hv
end
/-! ## statements that take coins -/
section
variable {X : Cx} {δ : SEnv} {n k c1 c2 c3 : Nat} {N : SEnv → Bud → Prop} {R : Res → Bud → Prop} {e a b c : Expr} {as bs : List Stmt} {pos : Pos} {A B C : PyData → Prop} {T : Bool → Prop}
theorem OkS.atC {K : PySem.W.Frag} {p : Addr} {S : Addr → Prop} {H0 H H1 : Hp} {σ : L2.St} {δ : SEnv} {A : Nat → Addr} {m n : Nat} {i : Nat} (ok : OkS K p S H0 H σ δ A) (hi : δ[i]? = some .purse) (s : SameC p H H1) (pu : Pu K p S (.coin m) H1) : OkS K p S H0 H1 σ δ A :=
  ok.atP (ok.pur i hi).2.1 (ok.pur i hi).2.2 s pu.no
theorem es_setC {x : Str} {pos' : Pos} (pi j : Nat) (he : EC X pi e (flat δ) k A) (hN : ∀ d, A d → (noOwnBut δ j ∨ nl d = true) ∧ N (δ.set j (.dat d)) (.coin (n + k))) (hcap : n + k ≤ cap) (nd : X.N.Nodup := by assumption) (hpi : δ[pi]? = some .purse := by rfl)
    (hi : X.N[j]? = some x := by rfl) (hx : Loc X.env.scope x := by first | exact Or.inl rfl | exact Or.inr rfl)
    (hs : swapsWith e (some (.Name x pos')) pos.line X.env = pure false := by rfl) (hf : X.fn x = true ∨ X.env.scope.names.lookup x = some .local := by first | exact .inl rfl | exact .inr rfl) : ES X (.Assign [.Name x pos'] e pos) δ (.coin n) N R := fun p S H0 D σ H Ad ok pu hn hr => by
  refine sS_of (ps_set nd hi hx pe_s hs hf) ?_
  refine he p S σ H _ n ok.ok (ok.pur pi hpi).1 pu hcap fun d v H1 hA s1 pu1 g1 => ?_
  obtain ⟨h1, h2⟩ := hN d hA
  obtain ⟨A', ok'⟩ := (ok.atC hpi s1 pu1 (n := n)).put (r := .dat d) (Same.refl H1) g1 h1
  exact hn _ _ _ H1 A' h2 ok' pu1
theorem es_retC (pi : Nat) (he : EC X pi e (flat δ) k A) (hR : ∀ d, A d → R (.dat d) (.coin (n + k))) (hcap : n + k ≤ cap) (hpi : δ[pi]? = some .purse := by rfl) : ES X (.Return (some e) pos) δ (.coin n) N R := fun p S H0 D σ H Ad ok pu hn hr => by
  refine sS_of (ps_ret pe_s) ?_
  exact he p S σ H _ n ok.ok (ok.pur pi hpi).1 pu hcap fun d v H1 hA s1 pu1 g1 => hr (.dat d) _ v H1 (hR d hA) (ok.atC hpi s1 pu1 (n := n)).base pu1 g1
theorem es_ifC (pi : Nat) (hc : TC X pi c (flat δ) k T) (h1 : T true → EW X as δ (.coin (n + k)) N R) (h2 : T false → EW X bs δ (.coin (n + k)) N R) (hcap : n + k ≤ cap) (hpi : δ[pi]? = some .purse := by rfl) : ES X (.If c as bs pos) δ (.coin n) N R := fun p S H0 D σ H A ok pu hn hr => by
  refine sS_of (ps_if pt_s pss_s pss_s) ?_
  refine hc p S σ H _ n ok.ok (ok.pur pi hpi).1 pu hcap fun v H1 hT s1 pu1 => ?_
  cases v with
  | true => exact iteT (h1 hT p S H0 D σ H1 A (ok.atC hpi s1 pu1 (n := n)) pu1 hn hr)
  | false => exact iteF (h2 hT p S H0 D σ H1 A (ok.atC hpi s1 pu1 (n := n)) pu1 hn hr)
/-- x, y = a, b; both may take coins -/
theorem es_parC {x y : Str} {px py pt pt2 : Pos} {kt k2 : Nat} (pi i j : Nat) (ha : EC X pi a (flat δ) c1 A) (hb : EC X pi b (flat δ) c2 B) (hN : ∀ d e, A d → B e → Safe2 δ (.dat d) (.dat e) ∧ N ((δ.set i (.dat d)).set j (.dat e)) (.coin (n + c1 + c2))) (hcap : n + c1 + c2 ≤ cap) (nd : X.N.Nodup := by assumption) (hpi : δ[pi]? = some .purse := by rfl)
    (hi : X.N[i]? = some x := by rfl) (hj : X.N[j]? = some y := by rfl) (hij : i ≠ j := by decide) (hx : X.env.scope.names.lookup x = some .local := by rfl) (hy : X.env.scope.names.lookup y = some .local := by rfl)
    (hc : X.calm = true := by rfl) (hw : swappedStores [.Tuple [.Name x px, .Name y py] kt pt] (.Tuple [a, b] k2 pt2) X.env = pure (some [x, y]) := by rfl)
    (hs : swapsWithSole [.Tuple [.Name x px, .Name y py] kt pt] (.Tuple [a, b] k2 pt2) pos.line X.env = pure false := by rfl)
    (he1 : starEach [a, b] X.env = (false, eval a X.env) :: starEach [b] X.env := by rfl) (he2 : starEach [b] X.env = (false, eval b X.env) :: starEach [] X.env := by rfl) :
    ES X (.Assign [.Tuple [.Name x px, .Name y py] kt pt] (.Tuple [a, b] k2 pt2) pos) δ (.coin n) N R := fun p S H0 D σ H Ad ok pu hn hr => by
  refine sS_of (ps_par hc nd hi hj hij hx hy (pa_cons pe_s (pa_cons pe_s pa_nil he2) he1) hw hs) ?_
  refine ha p S σ H _ n ok.ok (ok.pur pi hpi).1 pu (by omega) fun d v H1 hA s1 pu1 g1 => ?_
  have ok1 := ok.atC hpi s1 pu1 (n := n)
  refine hb p S σ H1 _ (n + c1) ok1.ok (ok.pur pi hpi).1 pu1 hcap fun e w H2 hB s2 pu2 g2 => ?_
  have ok2 := ok1.atC hpi s2 pu2 (n := n)
  refine ⟨v, w, rfl, ?_⟩
  obtain ⟨h1, h2⟩ := hN d e hA hB
  obtain ⟨A', ok'⟩ := ok2.put2 (r1 := .dat d) (r2 := .dat e) (Same.refl H2) (Same.refl H2) (g1.m (hideC pu.pS s2)) g2 (i := i) (j := j) h1
  exact hn _ _ _ H2 A' h2 ok' pu2
/-- x, y = a, b; b takes no coins, it may be a new list -/
theorem es_parCF {x y : Str} {px py pt pt2 : Pos} {kt k2 : Nat} {r2 : Res} (pi i j : Nat) (ha : EC X pi a (flat δ) c1 A) (hb : EG X b (flat δ) r2) (hN : ∀ d, A d → Safe2 δ (.dat d) r2 ∧ N ((δ.set i (.dat d)).set j (toSlot r2)) (.coin (n + c1))) (hcap : n + c1 ≤ cap) (nd : X.N.Nodup := by assumption) (hpi : δ[pi]? = some .purse := by rfl)
    (hi : X.N[i]? = some x := by rfl) (hj : X.N[j]? = some y := by rfl) (hij : i ≠ j := by decide) (hx : X.env.scope.names.lookup x = some .local := by rfl) (hy : X.env.scope.names.lookup y = some .local := by rfl)
    (hc : X.calm = true := by rfl) (hw : swappedStores [.Tuple [.Name x px, .Name y py] kt pt] (.Tuple [a, b] k2 pt2) X.env = pure (some [x, y]) := by rfl)
    (hs : swapsWithSole [.Tuple [.Name x px, .Name y py] kt pt] (.Tuple [a, b] k2 pt2) pos.line X.env = pure false := by rfl)
    (he1 : starEach [a, b] X.env = (false, eval a X.env) :: starEach [b] X.env := by rfl) (he2 : starEach [b] X.env = (false, eval b X.env) :: starEach [] X.env := by rfl) :
    ES X (.Assign [.Tuple [.Name x px, .Name y py] kt pt] (.Tuple [a, b] k2 pt2) pos) δ (.coin n) N R := fun p S H0 D σ H Ad ok pu hn hr => by
  refine sS_of (ps_par hc nd hi hj hij hx hy (pa_cons pe_s (pa_cons pe_s pa_nil he2) he1) hw hs) ?_
  refine ha p S σ H _ n ok.ok (ok.pur pi hpi).1 pu hcap fun d v H1 hA s1 pu1 g1 => ?_
  have ok1 := ok.atC hpi s1 pu1 (n := n)
  refine hb S σ H1 _ ok1.ok fun w H2 s2 g2 => ?_
  refine ⟨v, w, rfl, ?_⟩
  obtain ⟨h1, h2⟩ := hN d hA
  obtain ⟨A', ok'⟩ := ok1.put2 (r1 := .dat d) (r2 := r2) (Same.refl H1) s2 g1 g2 (i := i) (j := j) h1
  exact hn _ _ _ H2 A' h2 ok' (pu1.m s2)
end
section
variable {X : Cx} {δ : SEnv} {n : Bud} {N : SEnv → Bud → Prop} {R : Res → Bud → Prop} {e a b c : Expr} {st : Stmt} {sts as bs : List Stmt} {pos : Pos} {d x y : PyData} {ds xs ys : List PyData} {k : Bool} {r : Res}
theorem es_forX_core {tg iter : Expr} {body : List Stmt} {g : TG} (I : List PyData → Nat → SEnv → Bud → Prop) (hi : ∀ (p : Addr) (S : Addr → Prop) (H0 : Hp) (σ : L2.St) (H : Hp) (A : Nat → Addr) (R : It → Hp → Prop), OkS X.K p S H0 H σ δ A → Pu X.K p S n H →
      (∀ ds J H1 n1, I ds 0 δ n1 → OkS X.K p S H0 H1 σ δ A → Pu X.K p S n1 H1 → Walks X.K (fun a => S a ∨ owned δ A a) J H1 ds → R J H1) → sI X tg iter σ H R)
    (hg : PG X tg g) (hstep : ∀ (ds : List PyData) (i : Nat) (d : PyData) (δ' : SEnv) (n' : Bud), ds[i]? = some d → I ds i δ' n' → ∃ t, TgS X g d δ' t ∧ EW X body t n' (fun δ'' n'' => I ds (i + 1) δ'' n'') R)
    (hd : ∀ ds δ' n', I ds ds.length δ' n' → N δ' n')
    (hpo : PassesOwn (model X.prog X.w) X.A X.env X.xe) (hc : X.calm = true := by rfl) (hs : ∀ x, foldedSetIterable iter X.env x = pure x := by intro _; rfl) : ES X (.For tg iter body [] pos) δ n N R := fun p S H0 D σ H A ok pu hn hr => by
  refine sS_of (ps_for hpo hc pi_s hg pss_s hs) ?_
  refine hi p S H0 σ H A _ ok pu fun ds J H1 n1 h0 ok1 pu1 W => ?_
  let P : Nat → L2.St → Hp → Prop := fun i σ' H' => ∃ (δ' : SEnv) (n' : Bud) (A' : Nat → Addr), I ds i δ' n' ∧ OkS X.K p S H0 H' σ' δ' A' ∧ Pu X.K p S n' H' ∧ Same (hide (fun a => S a ∨ owned δ A a) H1) (hide (fun a => S a ∨ owned δ A a) H') ∧ ∀ a, owned δ' A' a → (S a ∨ owned δ A a) ∨ H1 a = none
  refine ⟨fun i m σ' H' => m = ds.length - i ∧ i ≤ ds.length ∧ P i σ' H', ⟨ds.length, by simp, Nat.zero_le _, δ, n1, A, h0, ok1, pu1, Same.refl _, fun a h => .inl (.inr h)⟩, ?_⟩
  rintro i m σ' H' ⟨rfl, hle, δ', n', A', hI, ok', pu', sm, own'⟩
  by_cases hlt : i < ds.length
  · refine .inr ⟨W.go H' i sm hlt, fun σ'' H'' => i + 1 ≤ ds.length ∧ P (i + 1) σ'' H'', fun σ'' H'' hN => ⟨ds.length - (i + 1), by omega, rfl, hN.1, hN.2⟩, fun v H2 hy => ?_⟩
    obtain ⟨s2, d, hdi, hx⟩ := W.yld (fun a => S a ∨ owned δ' A' a) H' i v H2 ok'.okO.hid (fun a ha => ha.elim (fun z => .inl (.inl z)) (own' a)) sm hlt hy
    obtain ⟨t, tg1, ew⟩ := hstep ds i d δ' n' hdi hI
    have ok2 := ok'.m s2
    refine tg1 p S _ H2 σ' A' v _ ok2.low hx fun σ3 A3 ok3 => ?_
    have again : ∀ (δ'' : SEnv) (n'' : Bud) (σ'' : L2.St) (H'' : Hp) (A'' : Nat → Addr), I ds (i + 1) δ'' n'' → OkS X.K p S (lowB δ' A' p H2) H'' σ'' δ'' A'' → Pu X.K p S n'' H'' → i + 1 ≤ ds.length ∧ P (i + 1) σ'' H'' := fun δ'' n'' σ'' H'' A'' hI' ok'' pu'' => by
      refine ⟨hlt, δ'', n'', A'', hI', ok2.high ok'', pu'', fun b u hb => ?_, fun a ha => ?_⟩
      · obtain ⟨c, hb⟩ := hide_some hb
        obtain ⟨_, hb'⟩ := hide_some (sm b u (by rw [hide_get c]; exact hb))
        rw [hide_get c]
        refine ok''.base b u ?_
        unfold lowB
        rw [hide_get]
        · exact s2 _ _ hb'
        · rintro (z | ⟨⟨j, z⟩, rfl⟩)
          · rcases own' b z with z | z
            · exact c z
            · rw [z] at hb; cases hb
          · exact c (.inl (ok'.pur j z).2.1)
      · obtain ⟨j, es, k1, k2⟩ := ha
        have k3 := (ok''.own j es k1).2.1
        rw [← k2] at k3
        rcases ok2.noLow k3 with z | ⟨z, _⟩ | z
        · exact own' a z
        · exact .inl (.inl z)
        · by_cases c : S a ∨ owned δ A a
          · exact .inl c
          · refine .inr ?_
            cases q : H1 a with
            | none => rfl
            | some u =>
              obtain ⟨_, q2⟩ := hide_some (sm a u (by rw [hide_get c]; exact q))
              rw [s2 _ _ q2] at z
              cases z
    exact ew p S _ { D with nx := fun σ'' H'' => i + 1 ≤ ds.length ∧ P (i + 1) σ'' H'', ct := fun σ'' H'' => i + 1 ≤ ds.length ∧ P (i + 1) σ'' H'', bk := D.nx } σ3 H2 A3 ok3 (pu'.m s2)
      (fun δ'' n'' σ'' H'' A'' hN ok'' pu'' => again δ'' n'' σ'' H'' A'' hN ok'' pu'')
      (fun r n'' v' H'' hR s3 pu'' g => hr r n'' v' H'' hR (ok2.sameLow.trans s3) pu'' (g.back ok2.sameLow))
  · have e : i = ds.length := by omega
    subst e
    exact .inl ⟨W.stop H' sm, hn δ' n' σ' H' A' (hd ds _ _ hI) ok' pu'⟩
end

def startC (N : List Str) (ds : List PyData) : SEnv := Slot.purse :: (ds.map Slot.dat ++ List.replicate (N.length - ds.length - 1) Slot.unk)
section
variable {P : Program} {w : World} {K : PySem.W.Frag} {mg : Str → Option Value} {base : Heap}
theorem startC_get {N : List Str} {ds : List PyData} {i : Nat} {s : Slot} (h : (startC N ds)[i]? = some s) : (s = .purse ∧ i = 0) ∨ (∃ d j, s = .dat d ∧ i = j + 1 ∧ ds[j]? = some d) ∨ s = .unk := by
  unfold startC at h
  cases i with
  | zero => cases h; exact .inl ⟨rfl, rfl⟩
  | succ j =>
    rw [List.getElem?_cons_succ, List.getElem?_append] at h
    split at h
    · rw [List.getElem?_map] at h
      cases q : ds[j]? with
      | none => rw [q] at h; cases h
      | some e => rw [q] at h; cases h; exact .inr (.inl ⟨e, j, rfl, rfl, q⟩)
    · have := List.mem_of_getElem? h
      rw [List.mem_replicate] at this
      exact .inr (.inr this.2)
/-- a def that takes coins from its first argument -/
theorem Fun.okC {x qual : Str} {st : Stmt} {f : Addr} {fd : FuncData} {N ps : List Str} {k : Nat} (F : Fun K x qual st f fd) (Sc : FnScope N ps (defScope st)) (cost : Nat) (fr : List PyData → (PyData → Prop) → Prop) (hl : ∀ ds r, fr ds r → ds.length + 1 = ps.length) (hps : ps.length ≤ N.length)
    (body : ∀ (cdv : Value) (A : Around) (outer : List Env) (s : Shared) (H : Hp) (E : XK), Room k (A.deeper (envOfC qual (defScope st) s.heap.objs.size f cdv)) → ∀ ds B n, fr ds B → n + cost ≤ cap →
      EW (cxOf CX0 P w K mg base N qual (defScope st) f cdv A outer s H E).nox (defBody st) (startC N ds) (.coin n) (fun _ m => B .none ∧ ∃ m', m = .coin m' ∧ m' ≤ n + cost) (fun r m => (∃ d, r = .dat d ∧ B d) ∧ ∃ m', m = .coin m' ∧ m' ≤ n + cost)) : FnOk P w K mg base CX0 (k + 1) f fd ps (spC K cost fr) := by
  refine F.ok Sc (fun vs H Q E h => ?_) (fun cdv A outer s H vs Q E hr h => ?_)
  · obtain ⟨S, p, ds, vs0, B, n, _, e, h2, _, _, h3, _⟩ := h
    rw [e, List.length_cons, h2.length, ← hl ds B h3]
  · obtain ⟨S, p, ds, vs0, B, n, hh, rfl, h2, hpu, hcap, h3, h4⟩ := h
    refine ⟨_, pss_s, ?_⟩
    have hlen := h2.length
    have hl3 := hl ds B h3
    refine body cdv A outer s H E hr ds B n h3 hcap p S (hide (fun a => a = p) H) _ _ H (fun _ => 0) ?_ hpu (fun δ' n' σ' H' A' hN ok' pu' => ?_) (fun r' n' v H' hR s1 pu' g => ?_)
    · refine { len := ?_, base := hide_le, hid := hh, dat := fun i d hd => ?_, own := fun i es he => ?_, inj := fun i j es es' he => ?_, pur := fun i he => ?_ }
      · unfold startC L2.start
        rw [List.length_cons, List.length_append, List.length_append, List.length_map, List.length_map, List.length_replicate, List.length_replicate, List.length_cons, hlen]
        omega
      · rcases startC_get hd with ⟨e, _⟩ | ⟨d', j, e, rfl, hd⟩ | e
        · cases e
        · cases e
          obtain ⟨v, q1, q2⟩ := h2.get hd
          refine ⟨v, start_get (by rw [List.getElem?_cons_succ]; exact q1), q2.m (hide_anti fun a z => z.elim id fun ⟨j, es, k1, _⟩ => ?_)⟩
          rcases startC_get k1 with ⟨e, _⟩ | ⟨_, _, e, _⟩ | e <;> cases e
        · cases e
      · rcases startC_get he with ⟨e, _⟩ | ⟨_, _, e, _⟩ | e <;> cases e
      · rcases startC_get he with ⟨e, _⟩ | ⟨_, _, e, _⟩ | e <;> cases e
      · rcases startC_get he with ⟨e, hi⟩ | ⟨_, _, e, _⟩ | e
        · subst hi
          exact ⟨start_get rfl, hpu.pS, hide_no rfl⟩
        · cases e
        · cases e
    · obtain ⟨hB, m', rfl, hm⟩ := hN
      exact h4 _ _ H' hB ok'.base (pu'.up hm) .non
    · obtain ⟨⟨d, rfl, hB⟩, m', rfl, hm⟩ := hR
      exact h4 d v H' hB s1 (pu'.up hm) g
end
end PU
namespace PU
open PySem PySem.Spec PyProof.Rows L2 StX MM
theorem RepAll.setI {K : PySem.W.Frag} {H : Hp} : ∀ {vs : List V} {ds : List PyData} (j : Nat) (i : Int), RepAll K H vs ds → RepAll K H (vs.set j (.int i)) (ds.set j (.int i))
  | [], _, _, _, h => by cases h; exact .nil
  | v :: vs, _, 0, i, h => by cases h with | cons a b => exact .cons (.int i) b
  | v :: vs, _, j + 1, i, h => by cases h with | cons a b => exact .cons a (RepAll.setI j i b)
section
variable {X : Cx} {δ : PEnv} {e a b c : Expr} {pos apos : Pos}
theorem ev_bits {i : Int} (h : EV X e δ (.int i)) (hbase : attributeBase e "bit_length" X.env (eval e X.env) = eval e X.env := by rfl) (hline : (apos.endLine == pos.line) = true := by rfl) : EV X (.Call (.Attribute e "bit_length" apos) [] [] pos) δ (.int (Builtin.Int.intBits i : Nat)) := fun S σ H Q ok q => by
  refine sE_of (pe_bits pe_s hbase hline) ?_
  refine h S σ H _ ok fun v H1 s1 g1 => ?_
  cases (show Rep X.K (hide S H1) v (.int i) from g1)
  exact ⟨i, rfl, q _ H1 s1 (.int _)⟩
end
section
variable {X : Cx} {δ : SEnv} {N : SEnv → Bud → Prop} {R : Res → Bud → Prop} {e a b c : Expr} {pos : Pos} {xs : List PyData}
/-- x = e, a count read off the purse -/
theorem es_setPI {x : Str} {pos' : Pos} {j : Int} (i : Nat) (he : EV X e (flatP δ xs) (.int j)) (hN : N (δ.set i (.dat (.int j))) (.lst xs)) (nd : X.N.Nodup := by assumption)
    (hi : X.N[i]? = some x := by rfl) (hx : Loc X.env.scope x := by first | exact Or.inl rfl | exact Or.inr rfl)
    (hs : swapsWith e (some (.Name x pos')) pos.line X.env = pure false := by rfl) (hf : X.fn x = true ∨ X.env.scope.names.lookup x = some .local := by first | exact .inl rfl | exact .inr rfl) : ES X (.Assign [.Name x pos'] e pos) δ (.lst xs) N R := fun p S H0 D σ H A ok pu hn hr => by
  refine sS_of (ps_set nd hi hx pe_s hs hf) ?_
  refine he _ σ H _ (ok.okP pu) fun v H1 s1 g1 => ?_
  cases (show Rep X.K _ v (.int j) from g1)
  obtain ⟨A', ok'⟩ := ok.put (r := .dat (.int j)) s1 (.int j) (.inr rfl)
  exact hn _ _ _ H1 A' hN ok' (pu.m s1)
/-- purse[m] = e -/
theorem es_storePI {x : Str} {px pk p3 : Pos} {kk : Nat} {m j : Int} {jj : Nat} (i : Nat) (hd : δ[i]? = some .purse) (he : EV X e (flatP δ xs) (.int j)) (hm : ixN xs.length m = some jj) (hN : N δ (.lst (xs.set jj (.int j)))) (hnl : nlAll (xs.set jj (.int j)) = true) (hNi : X.N[i]? = some x := by rfl)
    (hv : Vis X.env.scope x := by first | exact Or.inl rfl | exact Or.inr (Or.inl rfl) | exact Or.inr (Or.inr rfl)) (h1 : (x == ("__debug__" : Str)) = false := by decide) (h2 : (x == ("__classdict__" : Str)) = false := by decide)
    (hasg : ∀ v, assign (.Subscript (.Name x px) (.Constant (.int m) kk pk) p3) X.env v = (do
      let ov ← holding [v] (eval (.Name x px) X.env)
      let iv ← holding [v, ov] (eval (.Constant (.int m) kk pk) X.env)
      standAt p3
      holding [v, ov, iv] (setItem ov iv v)
      release [v, ov, iv] []) := by intro _; rfl)
    (hs : swapsWithSole [.Subscript (.Name x px) (.Constant (.int m) kk pk) p3] e pos.line X.env = pure false := by rfl) (hw : swappedStores [.Subscript (.Name x px) (.Constant (.int m) kk pk) p3] e X.env = pure none := by rfl) :
    ES X (.Assign [.Subscript (.Name x px) (.Constant (.int m) kk pk) p3] e pos) δ (.lst xs) N R := fun p S H0 D σ H A ok pu hn hr => by
  refine sS_of (ps_asg pe_s (pg_sub (pe_var hNi hv h1 h2) pe_int set_list hasg) hs hw) ?_
  obtain ⟨k1, k2, k3⟩ := ok.pur i hd
  refine he _ σ H _ (ok.okP pu) fun v H1 s1 g1 => ?_
  cases (show Rep X.K _ v (.int j) from g1)
  obtain ⟨hS, hnx, vs, k4, k5⟩ := pu.m s1
  refine ⟨_, k1, p, vs, m, jj, rfl, rfl, k4, by rw [k5.length]; exact hm, ?_⟩
  refine hn _ _ _ _ A hN ((ok.m s1).atP k2 k3 same_but (by rw [upd_same]; exact fun z => nomatch z)) ⟨hS, hnl, _, upd_same, ?_⟩
  rw [hide_upd hS]
  exact k5.setI jj j
end
section
variable {P : Program} {w : World} {K : PySem.W.Frag} {mg : Str → Option Value} {base : Heap}
/-- a def that works on the four counts of the purse -/
theorem Fun.okD {x qual : Str} {st : Stmt} {f : Addr} {fd : FuncData} {N ps : List Str} {k : Nat} (F : Fun K x qual st f fd) (Sc : FnScope N ps (defScope st)) (cost : Nat) (fr : List PyData → (PyData → Prop) → Prop) (hl : ∀ ds r, fr ds r → ds.length + 1 = ps.length) (hps : ps.length ≤ N.length)
    (body : ∀ (cdv : Value) (A : Around) (outer : List Env) (s : Shared) (H : Hp) (E : XK), Room k (A.deeper (envOfC qual (defScope st) s.heap.objs.size f cdv)) → ∀ (ds : List PyData) (B : PyData → Prop) (x y z u : Int), fr ds B → 0 ≤ x → 0 ≤ y → y < 2 ^ 32 → 0 ≤ z → z + cost ≤ cap → 0 ≤ u → u < 2 ^ 32 →
      EW (cxOf CX0 P w K mg base N qual (defScope st) f cdv A outer s H E).nox (defBody st) (startC N ds) (.lst [.int x, .int y, .int z, .int u]) (fun _ _ => False) (fun r m => (∃ d, r = .dat d ∧ B d) ∧ ∃ x' z' : Int, m = .lst [.int x', .int y, .int z', .int u] ∧ 0 ≤ x' ∧ 0 ≤ z' ∧ z' ≤ z + cost)) : FnOk P w K mg base CX0 (k + 1) f fd ps (spC K cost fr) := by
  refine F.ok Sc (fun vs H Q E h => ?_) (fun cdv A outer s H vs Q E hr h => ?_)
  · obtain ⟨S, p, ds, vs0, B, n, _, e, h2, _, _, h3, _⟩ := h
    rw [e, List.length_cons, h2.length, ← hl ds B h3]
  · obtain ⟨S, p, ds, vs0, B, n, hh, rfl, h2, hpu, hcap, h3, h4⟩ := h
    refine ⟨_, pss_s, ?_⟩
    have hlen := h2.length
    have hl3 := hl ds B h3
    obtain ⟨hS, x, y, z, w', hp, hx, hy, hy2, hz, hzn, hw, hw2⟩ := id hpu
    refine body cdv A outer s H E hr ds B x y z w' h3 hx hy hy2 hz (by omega) hw hw2 p S (hide (fun a => a = p) H) _ _ H (fun _ => 0) ?_ ⟨hS, rfl, _, hp, .cons (.int _) (.cons (.int _) (.cons (.int _) (.cons (.int _) .nil)))⟩ (fun δ' n' σ' H' A' hN ok' pu' => hN.elim) (fun r' n' v H' hR s1 pu' g => ?_)
    · refine { len := ?_, base := hide_le, hid := hh, dat := fun i d hd => ?_, own := fun i es he => ?_, inj := fun i j es es' he => ?_, pur := fun i he => ?_ }
      · unfold startC L2.start
        rw [List.length_cons, List.length_append, List.length_append, List.length_map, List.length_map, List.length_replicate, List.length_replicate, List.length_cons, hlen]
        omega
      · rcases startC_get hd with ⟨e, _⟩ | ⟨d', j, e, rfl, hd⟩ | e
        · cases e
        · cases e
          obtain ⟨v, q1, q2⟩ := h2.get hd
          refine ⟨v, start_get (by rw [List.getElem?_cons_succ]; exact q1), q2.m (hide_anti fun a z => z.elim id fun ⟨j, es, k1, _⟩ => ?_)⟩
          rcases startC_get k1 with ⟨e, _⟩ | ⟨_, _, e, _⟩ | e <;> cases e
        · cases e
      · rcases startC_get he with ⟨e, _⟩ | ⟨_, _, e, _⟩ | e <;> cases e
      · rcases startC_get he with ⟨e, _⟩ | ⟨_, _, e, _⟩ | e <;> cases e
      · rcases startC_get he with ⟨e, hi⟩ | ⟨_, _, e, _⟩ | e
        · subst hi
          exact ⟨start_get rfl, hpu.pS, hide_no rfl⟩
        · cases e
        · cases e
    · obtain ⟨⟨d, rfl, hB⟩, x', z', rfl, hx', hz', hzc⟩ := hR
      obtain ⟨_, _, vs', e1, e2⟩ := pu'
      refine h4 d v H' hB s1 ⟨hS, x', y, z', w', ?_, hx', hy, hy2, hz', by omega, hw, hw2⟩ g
      cases e2 with
      | cons a1 e2 => cases e2 with
        | cons a2 e2 => cases e2 with
          | cons a3 e2 => cases e2 with
            | cons a4 e2 =>
              cases e2; cases a1; cases a2; cases a3; cases a4
              exact e1
end
end PU
namespace PU
open PySem PySem.Spec PyProof.Rows L2 StX MM

def mix1 (i j l : Int) : Int := (i * 69069 + 104729 * j * j + 7919 * l + j) % 2147483647
def mix2 (m : Int) : Int := (m * m + 40503) % 2147483629
def mixF (i j l : Int) : Int := (mix2 (mix1 i j l) * 48271) % 2147483587
theorem mix1_lt (i j l : Int) : 0 ≤ mix1 i j l ∧ mix1 i j l < 2147483647 := ⟨Int.emod_nonneg _ (by decide), Int.emod_lt_of_pos _ (by decide)⟩
theorem bits0 {m : Int} (h : 0 < m) (h2 : m ≤ 1000) : ((Builtin.Int.intBits m : Nat) : Int) / 28 = 0 := by
  have : Builtin.Int.intBits m ≤ 20 := PyProof.Rows.intBits_le (by omega)
  omega

section
variable {P : Program} {w : World} {K : PySem.W.Frag} {mg : Str → Option Value} {base : Heap} {f : Addr} {fd : FuncData}

/-! ### _law_mixed -/
abbrev st_law_mixed : Stmt := top 60
theorem sc_law_mixed : FnScope ["_law_seed", "_law_spin", "_law_at", "_law_mixed_here"] ["_law_seed", "_law_spin", "_law_at"] (defScope st_law_mixed) := ⟨rfl, rfl, rfl, by decide +kernel, rfl, by decide +kernel, by decide +kernel⟩
def r_law_mixed : List PyData → Res → Prop := fun ds r => ∃ i j l : Int, ds = [.int i, .int j, .int l] ∧ 0 ≤ j ∧ j < 2 ^ 62 ∧ r = .dat (.int (mixF i j l))
theorem ok_law_mixed (G : Mg K mg)  (F : Fun K "_law_mixed" "_law_mixed" st_law_mixed f fd) : FnOk P w K mg base CX0 1 f fd ["_law_seed", "_law_spin", "_law_at"] (spR K r_law_mixed) := by
  refine Fun.okR F sc_law_mixed r_law_mixed (by rintro _ _ ⟨_, _, _, rfl, _⟩; rfl) fun cdv A outer s H E hr ds r h => ?_
  have nd := sc_law_mixed.nd
  obtain ⟨i, j, l, rfl, h0, h1, rfl⟩ := h
  have hm := mix1_lt i j l
  refine ew_cons (es_set 3 (eg_bin br_add (eg_bin (br_mul (.inr (by decide))) (ev_var 0 rfl) ev_int) (eg_bin (br_mul (.inr (by omega))) (eg_bin (br_mul (.inl (by decide))) ev_int (ev_var 1 rfl)) (ev_var 1 rfl))) (EW.nrm [_, _, _, _] rfl ?_) (nd := nd))
  refine ew_cons (es_set 3 (eg_bin (br_mod (by decide)) (eg_callTy cr_intI (ea_cons (eg_bin br_add (eg_bin br_add (ev_var 3 rfl) (eg_bin (br_mul (.inl (by decide))) ev_int (ev_var 2 rfl))) (ev_var 1 rfl)) ea_nil) G.int rfl) ev_int) (EW.nrm [_, _, _, .dat (.int (mix1 i j l))] rfl ?_) (nd := nd))
  refine ew_cons (es_set 3 (eg_bin (br_mod (by decide)) (eg_callTy cr_intI (ea_cons (eg_bin br_add (eg_bin (br_mul (.inl (by omega))) (ev_var 3 rfl) (ev_var 3 rfl)) ev_int) ea_nil) G.int rfl) ev_int) (EW.nrm [_, _, _, _] rfl ?_) (nd := nd))
  exact ew_one (es_ret (eg_bin (br_mod (by decide)) (eg_callTy cr_intI (ea_cons (eg_bin (br_mul (.inr (by decide))) (ev_var 3 rfl) ev_int) ea_nil) G.int rfl) ev_int) rfl)
/-! ### _law_draw -/
abbrev st_law_draw : Stmt := top 61
theorem sc_law_draw : FnScope ["_law_purse_here", "_law_many", "_law_drawn", "_law_found", "_law_piece"] ["_law_purse_here", "_law_many"] (defScope st_law_draw) := ⟨rfl, rfl, rfl, by decide +kernel, rfl, by decide +kernel, by decide +kernel⟩
def r_law_draw : List PyData → (PyData → Prop) → Prop := fun ds B => ∃ m : Int, ds = [.int m] ∧ 0 < m ∧ m ≤ 1000 ∧ ∀ k, 0 ≤ k → k < m → B (.int k)
theorem ok_law_draw (G : Mg K mg) (C_law_mixed : Cal P w K mg base 1 "_law_mixed" ["_law_seed", "_law_spin", "_law_at"] (spR K r_law_mixed)) (F : Fun K "_law_draw" "_law_draw" st_law_draw f fd) : FnOk P w K mg base CX0 2 f fd ["_law_purse_here", "_law_many"] (spC K 1 r_law_draw) := by
  refine Fun.okD F sc_law_draw 1 r_law_draw (by rintro _ _ ⟨_, rfl, _⟩; rfl) (by decide) fun cdv A outer s H E hr ds B x y z u h hx hy hy2 hz hcap hu hu2 => ?_
  have nd := sc_law_draw.nd
  obtain ⟨m, rfl, hm, hm2, hB⟩ := h
  have hdiv : CDiv x m := ⟨hm, by omega⟩
  have out : ∀ t : Int, B (.int (t % m)) := fun t => hB _ (Int.emod_nonneg _ (by omega)) (Int.emod_lt_of_pos _ hm)
  show EW _ _ [.purse, .dat (.int m), .unk, .unk, .unk] _ _ _
  by_cases hpos : x > 0
  · refine ew_cons (es_ifP (k := true) (et_cmp (CmpR.to cm_gt (decide_eq_true hpos)) (ev_ix (ev_var 0 rfl) ev_int rfl) ev_int) (fun _ => ?_) (fun z => by cases z))
    refine ew_cons (es_setPI 2 (j := x % m) (eg_bin (br_mod hm) (eg_callTy cr_intI (ea_cons (ev_ix (ev_var 0 rfl) ev_int rfl) ea_nil) G.int rfl) (ev_var 1 rfl)) (EW.nrm [_, _, _, _, _] rfl ?_) (nd := nd))
    refine ew_cons (es_storePI 0 rfl (j := x / m) (jj := 0) (eg_bin (br_fdiv hdiv) (ev_ix (ev_var 0 rfl) ev_int rfl) (ev_var 1 rfl)) rfl ?_ rfl)
    exact ew_one (es_ret (ev_var 2 rfl) ⟨⟨_, rfl, out x⟩, x / m, z, rfl, Int.ediv_nonneg hx (by omega), hz, by omega⟩)
  · refine ew_cons (es_ifP (k := false) (et_cmp (CmpR.to cm_gt (decide_eq_false hpos)) (ev_ix (ev_var 0 rfl) ev_int rfl) ev_int) (fun z => by cases z) (fun _ => ew_nil ?_))
    refine ew_cons (es_set 3 ev_int (EW.nrm [_, _, _, _, _] rfl (ew_cons ?_)) (nd := nd))
    refine es_for (ds := rngD 0 1) 4 (fun t δ' n' => ∃ (x2 x4 : Slot) (f : Int), δ' = [.purse, .dat (.int m), x2, .dat (.int f), x4] ∧ n' = .lst [.int x, .int y, .int (z + t), .int u] ∧ no1 x2 ∧ no1 x4) (ei_range1 (j := 1) (EV.to (eg_bin br_add ev_int (eg_bin (br_fdiv ⟨by decide, by decide⟩) (ev_bits (ev_var 1 rfl)) ev_int)) (by rw [bits0 hm hm2] <;> rfl)) G.range (by decide) (by decide)) ⟨_, _, 0, rfl, by rw [show ((0 : Nat) : Int) = 0 from rfl, Int.add_zero], rfl, rfl⟩ (fun t dd δ' n' hdm hI => ?_) (fun δ' n' hI => ?_) nd
    · obtain ⟨x2, x4, f0, rfl, rfl, h2, h4⟩ := hI
      obtain ⟨i0, hi0, hi1, rfl⟩ := map_get hdm
      refine ⟨.inr rfl, EW.nrm [_, _, _, _, _] rfl ?_⟩
      have ht : t < 1 := by have := (List.getElem?_eq_some_iff.mp hdm).1; rw [rngD_len] at this; exact this
      have ht0 : t = 0 := by omega
      subst ht0
      refine ew_cons (es_storePI 0 rfl (j := z + 1) (jj := 2) (EV.to (eg_bin br_add (ev_ix (ev_var 0 rfl) ev_int rfl) ev_int) (by rw [show ((0 : Nat) : Int) = 0 from rfl, Int.add_zero])) rfl ?_ rfl)
      refine ew_one (es_setPI 3 (j := f0 * 2147483587 + mixF y (z + 1) u) (eg_bin br_add (eg_bin (br_mul (.inr (by decide))) (ev_var 3 rfl) ev_int) (eg_call C_law_mixed (hr.mono (by omega)) (ea_cons (ev_ix (ev_var 0 rfl) ev_int rfl) (ea_cons (ev_ix (ev_var 0 rfl) ev_int rfl) (ea_cons (ev_ix (ev_var 0 rfl) ev_int rfl) ea_nil))) ⟨y, z + 1, u, rfl, by omega, by have : ((cap : Nat) : Int) = 1099511627776 := rfl; omega, rfl⟩)) ?_ (nd := nd))
      exact ⟨x2, _, _, rfl, rfl, h2, rfl⟩
    · obtain ⟨x2, x4, f0, rfl, rfl, h2, h4⟩ := hI
      rw [rngD_len]
      exact ew_one (es_ret (eg_bin (br_mod hm) (eg_callTy cr_intI (ea_cons (ev_var 3 rfl) ea_nil) G.int rfl) (ev_var 1 rfl)) ⟨⟨_, rfl, out f0⟩, x, z + 1, rfl, hx, by omega, by omega⟩)
end
end PU
namespace PU
open PySem PySem.Spec PyProof.Rows L2 StX MM

theorem join_fold : ∀ (us : List Nat) (acc : Array Nat), ((us.map fun u => (⟨#[u]⟩ : Str)).foldl (fun acc p => acc ++ (Str.ofString "").cps ++ p.cps) acc).toList = acc.toList ++ us
  | [], acc => by simp
  | u :: us, acc => by
    rw [List.map_cons, List.foldl_cons, join_fold us]
    have e : (Str.ofString "").cps = #[] := by decide +kernel
    rw [e]
    simp
theorem join_letters (us : List Nat) : (Txt.join "" (us.map fun u => (⟨#[u]⟩ : Str))).cps.toList = us := by
  show (Builtin.Str.glued _ _).cps.toList = us
  unfold Builtin.Str.glued
  cases us with
  | nil => decide +kernel
  | cons u us => exact join_fold us #[u]
theorem okw_of {w : Str} (h1 : 0 < w.cps.toList.length) (h2 : w.cps.toList.length < 9) (h3 : ∀ u ∈ w.cps.toList, u ∈ abc) : okw w = true := by
  have e : w.length = w.cps.toList.length := by show w.cps.size = _; rw [Array.length_toList]
  unfold okw
  rw [e, decide_eq_true h1, decide_eq_true h2]
  exact List.all_eq_true.mpr fun u hu => decide_eq_true (h3 u hu)
theorem okw_at {w : Str} (h : okw w = true) : 0 < w.cps.toList.length ∧ w.cps.toList.length < 9 ∧ ∀ u ∈ w.cps.toList, u ∈ abc := by
  have e : w.length = w.cps.toList.length := by show w.cps.size = _; rw [Array.length_toList]
  have := okw_len h
  rw [e] at this
  exact this
def isL (z : PyData) : Prop := ∃ u, z = .str ⟨#[u]⟩ ∧ u ∈ abc
theorem all_letters : ∀ {l : List PyData}, (∀ y ∈ l, isL y) → ∃ us : List Nat, l = strsD (us.map fun u => (⟨#[u]⟩ : Str)) ∧ ∀ u ∈ us, u ∈ abc
  | [], _ => ⟨[], rfl, fun u h => nomatch h⟩
  | y :: l, h => by
    obtain ⟨us, rfl, h1⟩ := all_letters (l := l) fun z hz => h z (List.mem_cons_of_mem _ hz)
    obtain ⟨u, rfl, h2⟩ := h y List.mem_cons_self
    refine ⟨u :: us, rfl, fun v hv => ?_⟩
    rcases List.mem_cons.mp hv with e | hv
    · subst e; exact h2
    · exact h1 v hv
theorem strsD_inj : ∀ {a b : List Str}, strsD a = strsD b → a = b
  | [], [], _ => rfl
  | [], _ :: _, h => nomatch h
  | _ :: _, [], h => nomatch h
  | x :: a, y :: b, h => by
    obtain ⟨h1, h2⟩ := List.cons.inj h
    cases h1
    rw [strsD_inj h2]
theorem abc_at {j : Int} (h0 : 0 ≤ j) (h1 : j < 26) : ∃ u, atI (Str.ofString "abcdefghijklmnopqrstuvwxyz").cps.toList j = some u ∧ isL (.str ⟨#[u]⟩) := by
  rw [abc_eq]
  obtain ⟨n, rfl⟩ : ∃ n : Nat, j = (n : Int) := ⟨j.toNat, by omega⟩
  have hn : n < abc.length := by show n < 26; omega
  exact ⟨abc[n], atI_nat (List.getElem?_eq_getElem hn), _, rfl, List.getElem_mem hn⟩
def isN (M : Int) (z : PyData) : Prop := ∃ k : Int, z = .int k ∧ 0 ≤ k ∧ k < M
section
variable {X : Cx} {i : Nat} {δ : PEnv} {a : Expr} {pos : Pos} {A : PyData → Prop} {c : Nat}
theorem isN.int {M : Int} : ∀ z, isN M z → ∃ j : Int, z = .int j := fun z ⟨k, h, _⟩ => ⟨k, h⟩
theorem eq_int {j : Int} : ∀ z : PyData, z = .int j → ∃ j : Int, z = .int j := fun z h => ⟨j, h⟩
/-- _law_draw(purse, a) -/
theorem ec_drawE {m : Nat} {x : Str} {pf px : Pos} {ps : List Str} (M : Int) (C : Cal X.prog X.w X.K X.mg X.base m "_law_draw" ps (spC X.K 1 r_law_draw)) (hr : Room m X.A) (ha : EC X i a δ c A) (hA : ∀ z, A z → ∃ k : Int, z = .int k ∧ 0 < k ∧ k ≤ M) (hM : M ≤ 1000)
    (hg : Gl X "_law_draw" := by rfl) (hNi : X.N[i]? = some x := by rfl) (hv : Vis X.env.scope x := by first | exact Or.inl rfl | exact Or.inr (Or.inl rfl) | exact Or.inr (Or.inr rfl)) (h1 : (x == ("__debug__" : Str)) = false := by decide) (h2 : (x == ("__classdict__" : Str)) = false := by decide)
    (hs : starEach [a] X.env = (false, eval a X.env) :: starEach [] X.env := by rfl) (he : starEach [.Name x px, a] X.env = (false, eval (.Name x px) X.env) :: starEach [a] X.env := by rfl) (hpl : (backTo pos (starEach [a] X.env)).any (·.1) = false := by rfl) :
    EC X i (.Call (.Name "_law_draw" pf) [.Name x px, a] [] pos) δ (c + 0 + 1) (isN M) :=
  ec_call C hr (eac_cons ha eac_nil hs) (fun ds h => by
    obtain ⟨z, t, rfl, hz, rfl⟩ := h
    obtain ⟨k, rfl, h0, h1⟩ := hA z hz
    exact ⟨k, rfl, h0, by omega, fun j j0 j1 => ⟨j, rfl, j0, by omega⟩⟩) hg hNi hv h1 h2 (by decide) he hpl
theorem ec_draw {m : Nat} {x : Str} {pf px : Pos} {ps : List Str} {M : Int} (C : Cal X.prog X.w X.K X.mg X.base m "_law_draw" ps (spC X.K 1 r_law_draw)) (hr : Room m X.A) (ha : EV X a δ (.int M)) (h0 : 0 < M) (hM : M ≤ 1000)
    (hg : Gl X "_law_draw" := by rfl) (hNi : X.N[i]? = some x := by rfl) (hv : Vis X.env.scope x := by first | exact Or.inl rfl | exact Or.inr (Or.inl rfl) | exact Or.inr (Or.inr rfl)) (h1 : (x == ("__debug__" : Str)) = false := by decide) (h2 : (x == ("__classdict__" : Str)) = false := by decide)
    (hs : starEach [a] X.env = (false, eval a X.env) :: starEach [] X.env := by rfl) (he : starEach [.Name x px, a] X.env = (false, eval (.Name x px) X.env) :: starEach [a] X.env := by rfl) (hpl : (backTo pos (starEach [a] X.env)).any (·.1) = false := by rfl) :
    EC X i (.Call (.Name "_law_draw" pf) [.Name x px, a] [] pos) δ 1 (isN M) :=
  (ec_drawE M C hr (ec_of ha) (fun z hz => ⟨M, hz, h0, Int.le_refl M⟩) hM hg hNi hv h1 h2 hs he hpl).up (by omega)
end

section
variable {P : Program} {w : World} {K : PySem.W.Frag} {mg : Str → Option Value} {base : Heap} {f : Addr} {fd : FuncData}

/-! ### _law_one_of -/
abbrev st_law_one_of : Stmt := top 63
theorem sc_law_one_of : FnScope ["_law_purse_here", "_law_some"] ["_law_purse_here", "_law_some"] (defScope st_law_one_of) := ⟨rfl, rfl, rfl, by decide +kernel, rfl, by decide +kernel, by decide +kernel⟩
def r_law_one_of : List PyData → (PyData → Prop) → Prop := fun ds B => ∃ l : List PyData, ds = [.list l] ∧ 0 < l.length ∧ l.length ≤ 1000 ∧ ∀ d ∈ l, B d
theorem ok_law_one_of (G : Mg K mg) (C_law_draw : Cal P w K mg base 2 "_law_draw" ["_law_purse_here", "_law_many"] (spC K 1 r_law_draw)) (F : Fun K "_law_one_of" "_law_one_of" st_law_one_of f fd) : FnOk P w K mg base CX0 3 f fd ["_law_purse_here", "_law_some"] (spC K 1 r_law_one_of) := by
  refine Fun.okC F sc_law_one_of 1 r_law_one_of (by rintro _ _ ⟨_, rfl, _⟩; rfl) (by decide) fun cdv A outer s H E hr ds B n h hcap => ?_
  have nd := sc_law_one_of.nd
  obtain ⟨l, rfl, h0, h1, hB⟩ := h
  show EW _ _ [.purse, .dat (.list l)] _ _ _
  exact ew_one (es_retC 0 (ec_ixL (ec_of (ev_var 1 rfl)) (ec_draw C_law_draw (hr.mono (by omega)) (eg_callB (cr_lenL trivial) (ea_cons (ev_var 1 rfl) ea_nil) G.len boot_len) (by omega) (by omega)) (C := B) (fun z hz => ⟨l, hz⟩) isN.int (fun l' j hl hj => by
    cases hl
    obtain ⟨k, e, k0, k1⟩ := hj
    cases e
    obtain ⟨t, rfl⟩ : ∃ t : Nat, j = (t : Int) := ⟨j.toNat, by omega⟩
    have ht : t < l.length := by omega
    exact ⟨l[t], atI_nat (List.getElem?_eq_getElem ht), hB _ (List.getElem_mem ht)⟩)) (fun d hd => ⟨⟨d, rfl, hd⟩, _, rfl, by omega⟩) (by omega))
/-! ### _law_word -/
abbrev st_law_word : Stmt := top 66
theorem sc_law_word : FnScope ["_law_purse_here", "_law_size", "_law_spin"] ["_law_purse_here"] (defScope st_law_word) := ⟨rfl, rfl, rfl, by decide +kernel, rfl, by decide +kernel, by decide +kernel⟩
def r_law_word : List PyData → (PyData → Prop) → Prop := fun ds B => ds = [] ∧ ∀ w : Str, okw w = true → B (.str w)
theorem ok_law_word (G : Mg K mg) (C_law_draw : Cal P w K mg base 2 "_law_draw" ["_law_purse_here", "_law_many"] (spC K 1 r_law_draw)) (F : Fun K "_law_word" "_law_word" st_law_word f fd) : FnOk P w K mg base CX0 3 f fd ["_law_purse_here"] (spC K 10 r_law_word) := by
  refine Fun.okC F sc_law_word 10 r_law_word (by rintro _ _ ⟨rfl, _⟩; rfl) (by decide) fun cdv A outer s H E hr ds B n h hcap => ?_
  have nd := sc_law_word.nd
  obtain ⟨rfl, hB⟩ := h
  show EW _ _ [.purse, .unk, .unk] _ _ _
  refine ew_cons (es_setC 0 1 (ec_add (ec_of ev_int) (ec_drawE 8 C_law_draw (hr.mono (by omega)) (ec_if (A := fun z => ∃ k : Int, z = .int k ∧ 0 < k ∧ k ≤ 8) (tc_eqI (ec_draw C_law_draw (hr.mono (by omega)) ev_int (by decide) (by decide)) (ec_of ev_int) isN.int eq_int) (fun _ => (ec_of ev_int).imp fun z hz => ⟨8, hz, by decide, by decide⟩) (fun _ => (ec_of ev_int).imp fun z hz => ⟨3, hz, by decide, by decide⟩)) (fun z hz => hz) (by decide)) eq_int isN.int) (fun d hd => ?_) (by omega) (nd := nd))
  obtain ⟨j, l, rfl, hj, k, e, k0, k1⟩ := hd
  cases hj; cases e
  refine ⟨.inr rfl, EW.nrm [_, _, _] rfl ?_⟩
  obtain ⟨t, ht⟩ : ∃ t : Nat, 1 + l = (t : Int) := ⟨(1 + l).toNat, by omega⟩
  rw [ht]
  have ht8 : t ≤ 8 := by omega
  have ht1 : 1 ≤ t := by omega
  refine ew_one (es_retC 0 (k := t * 1) (A := B) (EC.up (ec_join (A := fun z => ∃ l, z = .list l ∧ l.length = (rngD 0 t).length ∧ ∀ y ∈ l, isL y) (ec_lc 2 nd (ei_range1 (j := (t : Int)) (ev_var 1 rfl) G.range (by omega) (by omega)) (show blkC ["_law_purse_here", "_law_size", "_law_spin"] (defScope st_law_word) _ _ = true by decide +kernel) (fun d hd => fun _ _ _ _ _ => (ec_ixS (C := isL) (ec_of ev_str) (ec_draw C_law_draw (hr.mono (by omega)) ev_int (by decide) (by decide)) (fun z hz => ⟨_, hz, by decide +kernel⟩) isN.int (fun l' j' hl' hj' => by
      cases hl'
      obtain ⟨k', e', k0', k1'⟩ := hj'
      cases e'
      exact abc_at k0' k1'))) (by rw [rngD_len]; omega)) ?_ (by decide +kernel) ?_) (by rw [rngD_len]; omega)) (fun d hd => ⟨⟨d, rfl, hd⟩, _, rfl, by omega⟩) (by omega))
  · rintro z ⟨l', rfl, h1, h2⟩
    obtain ⟨us, rfl, h3⟩ := all_letters h2
    rw [rngD_len] at h1
    have hul : us.length = t := by rw [← h1]; unfold strsD; rw [List.length_map, List.length_map]
    refine ⟨_, rfl, by rw [List.length_map]; omega, ?_⟩
    rw [List.map_map]
    have : ((us.map ((fun x => x.length) ∘ fun u => (⟨#[u]⟩ : Str))).sum) = us.length := by
      clear hul h1 h2 h3
      induction us with
      | nil => rfl
      | cons u us ih => rw [List.map_cons, List.sum_cons, ih, List.length_cons]; show 1 + us.length = _; omega
    omega
  · rintro l' ⟨l2, e, h1, h2⟩
    have e2 : strsD l' = l2 := PyData.list.inj e
    subst e2
    obtain ⟨us, e3, h3⟩ := all_letters h2
    have e4 : l' = us.map fun u => (⟨#[u]⟩ : Str) := strsD_inj e3
    subst e4
    rw [rngD_len] at h1
    have hul : us.length = t := by rw [← h1]; unfold strsD; rw [List.length_map, List.length_map]
    exact hB _ (okw_of (by rw [join_letters]; omega) (by rw [join_letters]; omega) (by rw [join_letters]; exact h3))
end
end PU
namespace PU
open PySem PySem.Spec PyProof.Rows L2 StX MM
theorem call_list_txt {X : Cx} (hc : X.calm = true) : CallR X (.type "list") (fun xs H Q => ∃ z : Str, xs = [V.str z] ∧ z.length ≤ sizeLine ∧ ∀ p, H p = none → Q (.ref p) (upd H p (.lst (z.cps.toList.map fun c => V.str ⟨#[c]⟩)))) := by
  intro pins s σ H xs us Q I r h
  obtain ⟨z, rfl, hz, q⟩ := h
  obtain ⟨u, rfl, t, rfl⟩ := vals1 r
  refine call_list_str (I.ok.hd hc) z t (fun h' tk acc' c' hkeep hS hacc => ?_) hz
  refine ⟨.ref s.heap.objs.size, upd H s.heap.objs.size (.lst (z.cps.toList.map fun c => V.str ⟨#[c]⟩)), I.laid hkeep (Nat.le_refl _) (show ObjOk X.prog X.w _ _ _ (.lst (z.cps.toList.map fun c => V.str ⟨#[c]⟩)) from ⟨?_, acc'.toList, c', ?_, ?_⟩), rfl, q _ (I.hok.fresh (Nat.le_refl _))⟩
  · rw [List.length_map, Array.length_toList]; exact hz
  · have el : acc'.toList.length = acc'.size := by simp
    refine vals_of_at (by rw [List.length_map, el, hacc.1, Array.length_toList]) fun j y w h1 h2 => ?_
    obtain ⟨c, u, hcu, hi⟩ := hacc.2 j w (by rw [← Array.getElem?_toList]; exact h2)
    rw [List.getElem?_map, Array.getElem?_toList, hcu] at h1
    cases h1
    exact ⟨u, hi⟩
  · rw [Array.toArray_toList]; exact hS
theorem signs_repL {K : PySem.W.Frag} {H : Hp} : ∀ l : List Nat, RepAll K H (l.map fun c => V.str ⟨#[c]⟩) (l.map fun c => PyData.str ⟨#[c]⟩)
  | [] => .nil
  | c :: l => .cons (.str _) (signs_repL l)
theorem signs_rep {K : PySem.W.Frag} {H : Hp} (z : Str) : RepAll K H (z.cps.toList.map fun c => V.str ⟨#[c]⟩) (signs z) := signs_repL _
section
variable {X : Cx} {δ : PEnv}
theorem cr_listS {z : Str} (hz : z.length ≤ sizeLine) (hc : X.calm = true := by rfl) : CalR X (.type "list") [.str z] (.fresh (signs z)) := ⟨_, call_list_txt hc, fun S H vs Q hh h q => by
  cases h with
  | cons a t =>
    cases t
    cases a
    refine ⟨z, rfl, hz, fun p hp => q _ _ (same_new hp _) ⟨p, _, rfl, hp, upd_same, ?_⟩⟩
    exact signs_rep _⟩
end
end PU
namespace PU
open PySem PySem.Spec PyProof.Rows L2 StX MM
theorem Got.fwd {K : PySem.W.Frag} {S : Addr → Prop} {H H1 H2 : Hp} {v : V} (e : Same H1 H2) : ∀ {r : Res}, Got K S H H1 v r → Got K S H H2 v r
  | .dat _, h => Rep.m (hide_same e) h
  | .fresh _, ⟨p, vs, h1, h2, h3, h4⟩ => ⟨p, vs, h1, h2, e _ _ h3, RepAll.m (hide_same e) h4⟩
section
variable {X : Cx} {δ : SEnv} {n k c1 c2 c3 : Nat} {N : SEnv → Bud → Prop} {R : Res → Bud → Prop} {e a b c : Expr} {as bs : List Stmt} {pos : Pos} {A B C : PyData → Prop} {T : Bool → Prop}
/-- x, y = (a, b), the tuple is made -/
theorem es_unpCF {x y : Str} {px py pt pt2 : Pos} {kt k2 : Nat} {r2 : Res} (pi i j : Nat) (ha : EC X pi a (flat δ) c1 A) (hb : EG X b (flat δ) r2) (hN : ∀ d, A d → Safe2 δ (.dat d) r2 ∧ N ((δ.set i (.dat d)).set j (toSlot r2)) (.coin (n + c1))) (hcap : n + c1 ≤ cap) (nd : X.N.Nodup := by assumption) (hpi : δ[pi]? = some .purse := by rfl)
    (hi : X.N[i]? = some x := by rfl) (hj : X.N[j]? = some y := by rfl) (hx : Loc X.env.scope x := by first | exact Or.inl rfl | exact Or.inr rfl) (hy : Loc X.env.scope y := by first | exact Or.inl rfl | exact Or.inr rfl)
    (hfx : X.fn x = true ∨ X.env.scope.names.lookup x = some .local := by first | exact .inl rfl | exact .inr rfl) (hfy : X.fn y = true ∨ X.env.scope.names.lookup y = some .local := by first | exact .inl rfl | exact .inr rfl)
    (hc : X.calm = true := by rfl) (hw : swappedStores [.Tuple [.Name x px, .Name y py] kt pt] (.Tuple [a, b] k2 pt2) X.env = pure none := by rfl)
    (hs : swapsWithSole [.Tuple [.Name x px, .Name y py] kt pt] (.Tuple [a, b] k2 pt2) pos.line X.env = pure false := by rfl)
    (he1 : starEach [a, b] X.env = (false, eval a X.env) :: starEach [b] X.env := by rfl) (he2 : starEach [b] X.env = (false, eval b X.env) :: starEach [] X.env := by rfl) :
    ES X (.Assign [.Tuple [.Name x px, .Name y py] kt pt] (.Tuple [a, b] k2 pt2) pos) δ (.coin n) N R := fun p S H0 D σ H Ad ok pu hn hr => by
  refine sS_of (ps_asg (pe_tup (pa_cons pe_s (pa_cons pe_s pa_nil he2) he1)) (pg_tup hc (pgs_cons (pg_name nd hi hx hfx) (pgs_cons (pg_name nd hj hy hfy) pgs_nil))) hs hw) ?_
  refine ha p S σ H _ n ok.ok (ok.pur pi hpi).1 pu hcap fun d v H1 hA s1 pu1 g1 => ?_
  have ok1 := ok.atC hpi s1 pu1 (n := n)
  refine hb S σ H1 _ ok1.ok fun w H2 s2 g2 => ?_
  refine ⟨by show 2 ≤ sizeLine; decide, fun q hq => ?_⟩
  have nn := same_new hq (.tup [v, w])
  refine ⟨q, [v, w], rfl, .inl (.inl upd_same), rfl, _, _, rfl, _, _, rfl, rfl, ?_⟩
  obtain ⟨h1, h2⟩ := hN d hA
  obtain ⟨A', ok'⟩ := ok1.put2 (r1 := .dat d) (r2 := r2) (Same.refl H1) (s2.trans nn) g1 (g2.fwd nn) (i := i) (j := j) h1
  exact hn _ _ _ _ A' h2 ok' ((pu1.m s2).m nn)
end
theorem nodup_sub_len {α : Type} [DecidableEq α] : ∀ {a b : List α}, a.Nodup → (∀ x ∈ a, x ∈ b) → a.length ≤ b.length
  | [], _, _, _ => Nat.zero_le _
  | x :: a, b, hn, h => by
    have hn' := List.nodup_cons.mp hn
    have hx := h x List.mem_cons_self
    have := nodup_sub_len (a := a) (b := b.erase x) hn'.2 fun y hy => (List.mem_erase_of_ne (fun e => hn'.1 (by rw [← e]; exact hy))).mpr (h y (List.mem_cons_of_mem _ hy))
    rw [List.length_erase_of_mem hx] at this
    have := List.length_pos_of_mem hx
    rw [List.length_cons]
    omega
end PU
namespace PU
open PySem PySem.Spec PyProof.Rows L2 StX MM

theorem cutS_to (z : Str) (k : Nat) : (cutS z none (some (k : Int))).cps.toList = z.cps.toList.take k := by
  have e : z.length = z.cps.toList.length := by show z.cps.size = _; rw [Array.length_toList]
  have := cut_to z.cps.toList k
  unfold cutD at this
  unfold cutS
  rw [e]
  exact this
theorem cutS_from (z : Str) (k : Nat) : (cutS z (some (k : Int)) none).cps.toList = z.cps.toList.drop k := by
  have e : z.length = z.cps.toList.length := by show z.cps.size = _; rw [Array.length_toList]
  have := cut_from z.cps.toList k
  unfold cutD at this
  unfold cutS
  rw [e]
  exact this
theorem app_cps (a b : Str) : (a ++ b).cps.toList = a.cps.toList ++ b.cps.toList := by
  show (a.cps ++ b.cps).toList = _
  rw [Array.toList_append]
theorem okw_swap {z : Str} {k : Nat} {u : Nat} (h : okw z = true) (hk : k < z.length) (hu : u ∈ abc) : okw (cutS z none (some (k : Int)) ++ ⟨#[u]⟩ ++ cutS z (some ((k + 1 : Nat) : Int)) none) = true := by
  have e : z.length = z.cps.toList.length := by show z.cps.size = _; rw [Array.length_toList]
  obtain ⟨h1, h2, h3⟩ := okw_at h
  have hc : (cutS z none (some (k : Int)) ++ ⟨#[u]⟩ ++ cutS z (some ((k + 1 : Nat) : Int)) none).cps.toList = z.cps.toList.take k ++ [u] ++ z.cps.toList.drop (k + 1) := by
    rw [app_cps, app_cps, cutS_to, cutS_from]
  refine okw_of ?_ ?_ ?_
  · rw [hc, List.length_append, List.length_append, List.length_take, List.length_drop, List.length_singleton]; omega
  · rw [hc, List.length_append, List.length_append, List.length_take, List.length_drop, List.length_singleton]; omega
  · rw [hc]
    intro v hv
    simp only [List.mem_append, List.mem_singleton] at hv
    rcases hv with (hv | hv) | hv
    · exact h3 v (List.mem_of_mem_take hv)
    · subst hv; exact hu
    · exact h3 v (List.mem_of_mem_drop hv)
def okws (ws : List Str) : Prop := ∀ w ∈ ws, okw w = true
theorem len_of (z : Str) : z.length = z.cps.toList.length := by show z.cps.size = _; rw [Array.length_toList]
theorem ES.imp {X : Cx} {st : Stmt} {δ : SEnv} {n : Bud} {M N : SEnv → Bud → Prop} {R : Res → Bud → Prop} (h : ES X st δ n M R) (hM : ∀ δ' n', M δ' n' → N δ' n') : ES X st δ n N R := fun p S H0 D σ H A ok pu hn hr => h p S H0 D σ H A ok pu (fun δ' n' σ' H' A' hm => hn δ' n' σ' H' A' (hM _ _ hm)) hr
/-- some letter is not there -/
theorem signs_strs (z : Str) : signs z = strsD (z.cps.toList.map fun c => (⟨#[c]⟩ : Str)) := by unfold signs strsD; rw [List.map_map] <;> rfl
def az : List Str := abc.map fun c => (⟨#[c]⟩ : Str)
theorem az_ok : ∀ w ∈ az, okw w = true := by decide +kernel
theorem az_nodup : az.Nodup := by decide +kernel
theorem left_over {fs : List Str} (h : fs.length < 26) : az.filter (fun w => !decide (w ∈ fs)) ≠ [] := fun e => by
  have : ∀ w ∈ az, w ∈ fs := fun w hw => by
    by_cases c : w ∈ fs
    · exact c
    · have : w ∈ az.filter (fun w => !decide (w ∈ fs)) := List.mem_filter.mpr ⟨hw, by rw [decide_eq_false c] <;> rfl⟩
      rw [e] at this
      exact nomatch this
  have h2 := nodup_sub_len az_nodup this
  have h3 : az.length = 26 := by decide +kernel
  omega

section
variable {P : Program} {w : World} {K : PySem.W.Frag} {mg : Str → Option Value} {base : Heap} {f : Addr} {fd : FuncData}

/-! ### _law_words -/
abbrev st_law_words : Stmt := top 67
theorem sc_law_words : FnScope ["_law_purse_here", "_law_many", "_law_base", "_law_near", "_law_spot", "_law_found", "_law_spin", "_law_word_here", "_law_letter"] ["_law_purse_here", "_law_many"] (defScope st_law_words) := ⟨rfl, rfl, rfl, by decide +kernel, rfl, by decide +kernel, by decide +kernel⟩
def r_law_words : List PyData → (PyData → Prop) → Prop := fun ds B => ∃ m : Int, ds = [.int m] ∧ 0 < m ∧ m ≤ 3 ∧ ∀ ws : List Str, okws ws → (ws.length : Int) = m → B (.list (strsD ws))
theorem ok_law_words (G : Mg K mg) (C_law_draw : Cal P w K mg base 2 "_law_draw" ["_law_purse_here", "_law_many"] (spC K 1 r_law_draw)) (C_law_word : Cal P w K mg base 3 "_law_word" ["_law_purse_here"] (spC K 10 r_law_word)) (F : Fun K "_law_words" "_law_words" st_law_words f fd) : FnOk P w K mg base CX0 4 f fd ["_law_purse_here", "_law_many"] (spC K 47 r_law_words) := by
  refine Fun.okC F sc_law_words 47 r_law_words (by rintro _ _ ⟨_, rfl, _⟩; rfl) (by decide) fun cdv A outer s H E hr ds B n h hcap => ?_
  have nd := sc_law_words.nd
  obtain ⟨m, rfl, h0, h1, hB⟩ := h
  obtain ⟨mm, rfl⟩ : ∃ t : Nat, m = (t : Int) := ⟨m.toNat, by omega⟩
  show EW _ _ [.purse, .dat (.int (mm : Int)), .unk, .unk, .unk, .unk, .unk, .unk, .unk] _ _ _
  refine ew_cons (es_parC 0 2 3 (ec_call (A := fun z => ∃ w, z = .str w ∧ okw w = true) C_law_word (hr.mono (by omega)) eac_nil (fun ds h => ⟨h, fun w hw => ⟨w, rfl, hw⟩⟩)) (ec_eqI (ec_draw C_law_draw (hr.mono (by omega)) ev_int (by decide) (by decide)) (ec_of ev_int) isN.int eq_int) (fun d e hd he => ?_) (by omega) (nd := nd))
  obtain ⟨z, rfl, hz⟩ := hd
  obtain ⟨near, rfl⟩ := he
  refine ⟨.inr ⟨rfl, rfl⟩, EW.nrm [_, _, _, _, _, _, _, _, _] rfl ?_⟩
  obtain ⟨z1, z2, z3⟩ := okw_at hz
  have zl := len_of z
  refine ew_cons (es_unpCF 0 4 5 (ec_draw C_law_draw (hr.mono (by omega)) (eg_callB (cr_lenS (le_line (by omega))) (ea_cons (ev_var 2 rfl) ea_nil) G.len boot_len) (by omega) (by omega)) (el_lst ea_nil (small_len rfl)) (fun d hd => ?_) (by omega) (nd := nd))
  obtain ⟨sp, rfl, sp0, sp1⟩ := hd
  obtain ⟨k, rfl⟩ : ∃ t : Nat, sp = (t : Int) := ⟨sp.toNat, by omega⟩
  have hk : k < z.length := by omega
  refine ⟨.inr ⟨rfl, rfl⟩, EW.nrm [_, _, _, _, _, _, _, _, _] rfl (ew_cons ?_)⟩
  refine es_for (ds := rngD 0 mm) 6 (fun t δ' n' => ∃ (x6 x7 x8 : Slot) (fs : List Str) (q : Nat), δ' = [.purse, .dat (.int (mm : Int)), .dat (.str z), .dat (.bool near), .dat (.int (k : Int)), .own (strsD fs), x6, x7, x8] ∧ n' = .coin q ∧ no1 x6 ∧ no1 x7 ∧ no1 x8 ∧ fs.length = t ∧ okws fs ∧ q ≤ n + 14 + 11 * t)
    (ei_range1 (j := (mm : Int)) (ev_var 1 rfl) G.range (by omega) (by omega)) ⟨_, _, _, [], _, rfl, rfl, rfl, rfl, rfl, rfl, (fun w hw => nomatch hw), by omega⟩ (fun t dd δ' n' hdm hI => ?_) (fun δ' n' hI => ?_) nd
  · obtain ⟨x6, x7, x8, fs, q, rfl, rfl, h6, h7, h8, hlen, hok, hq⟩ := hI
    obtain ⟨i0, hi0, hi1, rfl⟩ := map_get hdm
    have ht : t < mm := by have := (List.getElem?_eq_some_iff.mp hdm).1; rw [rngD_len] at this; exact this
    refine ⟨.inr rfl, EW.nrm [_, _, _, _, _, _, _, _, _] rfl ?_⟩
    refine ew_cons (es_setC 0 7 (ec_catS (ec_catS (ec_of (ev_sliceS (ev_var 2 rfl) (le_line (by omega)) eo_none (eo_some (ev_var 4 rfl)))) (ec_ixS (C := isL) (ec_of ev_str) (ec_draw C_law_draw (hr.mono (by omega)) ev_int (by decide) (by decide)) (fun z hz => ⟨_, hz, by decide +kernel⟩) isN.int (fun l' j' hl' hj' => by
      cases hl'
      obtain ⟨k', e', k0', k1'⟩ := hj'
      cases e'
      exact abc_at k0' k1')) (fun z' hz' => ⟨_, hz', ?_⟩) (fun z' hz' => by obtain ⟨u, e, _⟩ := hz'; exact ⟨_, e, by show 1 ≤ 1000; omega⟩)) (ec_of (ev_sliceS (ev_var 2 rfl) (le_line (by omega)) (eo_some (eg_bin br_add (ev_var 4 rfl) ev_int)) eo_none)) ?_ (fun z' hz' => ⟨_, hz', ?_⟩)) (fun d hd => ?_) (by omega) (nd := nd))
    · rw [len_of, cutS_to, List.length_take]; omega
    · rintro z' ⟨j, l, rfl, hj, u, hl, _⟩
      cases hj; cases hl
      refine ⟨_, rfl, ?_⟩
      rw [len_of, app_cps, List.length_append, cutS_to, List.length_take]
      show _ + 1 ≤ 1000
      omega
    · rw [len_of, show ((k : Int) + 1) = ((k + 1 : Nat) : Int) from rfl, cutS_from, List.length_drop]; omega
    obtain ⟨j, l, rfl, ⟨j2, l2, e1, hj2, u, hl2, hu⟩, hl⟩ := hd
    cases e1; cases hj2; cases hl2; cases hl
    have hw := okw_swap hz hk hu
    rw [show (((k : Int) + 1)) = ((k + 1 : Nat) : Int) from rfl]
    generalize cutS z none (some (k : Int)) ++ ⟨#[u]⟩ ++ cutS z (some ((k + 1 : Nat) : Int)) none = v at hw
    refine ⟨.inr rfl, EW.nrm [_, _, _, _, _, _, _, _, _] rfl ?_⟩
    refine ew_cons (ES.imp (M := fun δ' n' => ∃ (v : Str) (q' : Nat), δ' = [.purse, .dat (.int (mm : Int)), .dat (.str z), .dat (.bool near), .dat (.int (k : Int)), .own (strsD fs), .dat (.int (0 + (i0 : Int))), .dat (.str v), x8] ∧ n' = .coin q' ∧ okw v = true ∧ q' ≤ n + 14 + 11 * (t + 1)) ?_ fun δ' n' hM => ?_)
    · cases near with
      | true => exact es_ifF (et_not (et_val (ev_var 3 rfl))) (ew_nil ⟨v, _, rfl, rfl, hw, by omega⟩)
      | false => exact es_ifT (et_not (et_val (ev_var 3 rfl))) (ew_one (es_setC 0 7 (ec_call (A := fun z => ∃ w, z = .str w ∧ okw w = true) C_law_word (hr.mono (by omega)) eac_nil (fun ds h => ⟨h, fun w hw => ⟨w, rfl, hw⟩⟩)) (fun d hd => by obtain ⟨v', rfl, hv'⟩ := hd; exact ⟨.inr rfl, v', _, rfl, rfl, hv', by omega⟩) (by omega) (nd := nd)))
    obtain ⟨v, q', rfl, rfl, hv, hq'⟩ := hM
    refine ew_cons (ES.imp (M := fun δ' n' => ∃ (v : Str), δ' = [.purse, .dat (.int (mm : Int)), .dat (.str z), .dat (.bool near), .dat (.int (k : Int)), .own (strsD fs), .dat (.int (0 + (i0 : Int))), .dat (.str v), x8] ∧ n' = .coin q' ∧ okw v = true) ?_ fun δ' n' hM => ?_)
    · by_cases hin : v ∈ fs
      · refine es_ifT (et_cmp (CmpR.to cm_inL (decide_eq_true hin)) (ev_var 7 rfl) (ev_var 5 rfl)) ?_
        have hne := left_over (fs := fs) (by omega)
        obtain ⟨c, r, hcr⟩ : ∃ c r, az.filter (fun w => !decide (w ∈ fs)) = c :: r := by
          cases hz : az.filter (fun w => !decide (w ∈ fs)) with
          | nil => exact absurd hz hne
          | cons c r => exact ⟨c, r, rfl⟩
        have hc : okw c = true := az_ok c (List.mem_filter.mp (show c ∈ az.filter (fun w => !decide (w ∈ fs)) by rw [hcr]; exact List.mem_cons_self)).1
        have hcc : strsD (c :: r) = ((strsD az).filter (fun d => match d with | .str w => !decide (w ∈ fs) | _ => false)).map (fun d => d) := by
          rw [List.map_id', ← hcr]
          unfold strsD
          rw [List.filter_map] <;> rfl
        refine ew_one (es_set 7 (r := .dat (.str c)) (ev_ix (EG.ev (EG.cast (r' := .fresh (strsD (c :: r))) (el_lcIf 8 (f := fun d => d) (keep := fun d => match d with | .str w => !decide (w ∈ fs) | _ => false) nd (ei_list (EG.ev (EG.cast (r' := .fresh (strsD az)) (eg_callTy (cr_listS (le_line (by decide +kernel))) (ea_cons ev_str ea_nil) G.list rfl) (by rw [signs_strs, abc_eq] <;> rfl)))) (show blkC ["_law_purse_here", "_law_many", "_law_base", "_law_near", "_law_spot", "_law_found", "_law_spin", "_law_word_here", "_law_letter"] (defScope st_law_words) _ _ = true by decide +kernel)
          (fun d hd => by obtain ⟨w', hw', rfl⟩ := List.mem_map.mp hd; exact fun _ _ _ _ _ => et_cmp cm_notInL (ev_var 8 rfl) (ev_var 5 rfl)) (fun d hd hk _ _ _ _ _ => ev_var 8 rfl) (le_line (by decide +kernel))) (congrArg Res.fresh hcc.symm))) ev_int (by exact at_zero _ _)) ⟨c, rfl, rfl, hc⟩ (safe := .inr rfl) (nd := nd))
      · exact es_ifF (et_cmp (CmpR.to cm_inL (decide_eq_false hin)) (ev_var 7 rfl) (ev_var 5 rfl)) (ew_nil ⟨v, rfl, rfl, hv⟩)
    obtain ⟨v, rfl, rfl, hv⟩ := hM
    have hfs : strsD (fs ++ [v]) = strsD fs ++ [.str v] := by unfold strsD; rw [List.map_append] <;> rfl
    exact ew_one (es_append 5 rfl (ev_var 7 rfl) ⟨.dat (.int (0 + (i0 : Int))), .dat (.str v), x8, fs ++ [v], q', by rw [hfs] <;> rfl, rfl, rfl, rfl, h8, by rw [List.length_append, hlen] <;> rfl, fun w hw => (List.mem_append.mp hw).elim (hok w) (fun e => by rw [List.mem_singleton] at e; subst e; exact hv), hq'⟩ rfl (Nat.lt_of_lt_of_le (by unfold strsD; rw [List.length_map]; omega) (le_line (n := 2000) (by decide))))
  · obtain ⟨x6, x7, x8, fs, q, rfl, rfl, h6, h7, h8, hlen, hok, hq⟩ := hI
    rw [rngD_len] at hlen hq
    exact ew_one (es_ret (ev_var 5 rfl) ⟨⟨_, rfl, hB fs hok (by rw [hlen])⟩, q, rfl, by omega⟩)
end
end PU
namespace PU
open PySem PySem.Spec PyProof.Rows L2 StX MM

def costK : Nat → Nat
  | 0 => 1
  | n + 1 => 2 * costK n + 3
theorem costK2 : costK 2 = 13 := rfl
theorem okws_lit (ps : List Str) (h : ps.all okw = true) : okws ps := fun w hw => List.all_eq_true.mp h w hw
theorem strsD_len (l : List Str) : (strsD l).length = l.length := List.length_map _
theorem strsD_take (l : List Str) (k : Nat) : cutD (strsD l) none (some (k : Int)) = strsD (l.take k) := by rw [cut_to]; unfold strsD; rw [List.map_take]
def isP (z : PyData) : Prop := ∃ ps : List Str, z = .list (strsD ps) ∧ okws ps ∧ 0 < ps.length ∧ ps.length ≤ 3
theorem dep_sg : ∀ k : Kd, k.dep ≤ k.sg
  | .pl _ => Nat.le_refl 0
  | .ov a b => by have := dep_sg a; have := dep_sg b; show max a.dep b.dep + 1 ≤ a.sg + b.sg + 1; omega
  | .un a b => by have := dep_sg a; have := dep_sg b; show max a.dep b.dep + 1 ≤ a.sg + b.sg + 1; omega
  | .th a b => by have := dep_sg a; have := dep_sg b; show max a.dep b.dep + 1 ≤ a.sg + b.sg + 1; omega

section
variable {P : Program} {w : World} {K : PySem.W.Frag} {mg : Str → Option Value} {base : Heap} {f : Addr} {fd : FuncData}

/-! ### _law_plains -/
abbrev st_law_plains : Stmt := top 68
theorem sc_law_plains : FnScope ["_law_purse_here", "_law_most"] ["_law_purse_here", "_law_most"] (defScope st_law_plains) := ⟨rfl, rfl, rfl, by decide +kernel, rfl, by decide +kernel, by decide +kernel⟩
def r_law_plains : List PyData → (PyData → Prop) → Prop := fun ds B => ds = [.int 3] ∧ ∀ z, isP z → B z
theorem ok_law_plains (G : Mg K mg) (C_law_draw : Cal P w K mg base 2 "_law_draw" ["_law_purse_here", "_law_many"] (spC K 1 r_law_draw)) (C_law_one_of : Cal P w K mg base 3 "_law_one_of" ["_law_purse_here", "_law_some"] (spC K 1 r_law_one_of)) (C_law_words : Cal P w K mg base 4 "_law_words" ["_law_purse_here", "_law_many"] (spC K 47 r_law_words)) (F : Fun K "_law_plains" "_law_plains" st_law_plains f fd) : FnOk P w K mg base CX0 5 f fd ["_law_purse_here", "_law_most"] (spC K 50 r_law_plains) := by
  refine Fun.okC F sc_law_plains 50 r_law_plains (by rintro _ _ ⟨rfl, _⟩; rfl) (by decide) fun cdv A outer s H E hr ds B n h hcap => ?_
  have nd := sc_law_plains.nd
  obtain ⟨rfl, hB⟩ := h
  show EW _ _ [.purse, .dat (.int 3)] _ _ _
  refine ew_cons (es_ifC 0 (tc_eqI (ec_draw C_law_draw (hr.mono (by omega)) ev_int (by decide) (by decide)) (ec_of ev_int) isN.int eq_int) (fun _ => ew_one ?_) (fun _ => ew_nil (ew_one ?_)) (by omega))
  · refine es_retC 0 (A := B) (ec_slice (l := none) (h := some 3) (A := isP) (ec_call C_law_one_of (hr.mono (by omega)) (eac_cons (ec_of (EG.ev (el_lst (ea_cons (EG.ev (el_lst (ea_cons ev_str (ea_cons ev_str (ea_cons ev_str ea_nil))) (small_len rfl))) (ea_cons (EG.ev (el_lst (ea_cons ev_str (ea_cons ev_str (ea_cons ev_str ea_nil))) (small_len rfl))) (ea_cons (EG.ev (el_lst (ea_cons ev_str (ea_cons ev_str (ea_cons ev_str ea_nil))) (small_len rfl))) (ea_cons (EG.ev (el_lst (ea_cons ev_str (ea_cons ev_str (ea_cons ev_str ea_nil))) (small_len rfl))) ea_nil)))) (small_len rfl)))) eac_nil) (fun ds h => ?_)) (fun z hz => by obtain ⟨ps, e, _⟩ := hz; exact ⟨_, e⟩) eo_none (eo_some (ev_var 1 rfl)) (fun ds hz => ?_)) (fun d hd => ⟨⟨d, rfl, hd⟩, _, rfl, by omega⟩) (by omega)
    · obtain ⟨z, t, rfl, rfl, rfl⟩ := h
      refine ⟨_, rfl, by decide, by decide, fun d hd => ?_⟩
      simp only [List.mem_cons, List.not_mem_nil, or_false] at hd
      rcases hd with rfl | rfl | rfl | rfl
      · exact ⟨["cut", "is", "then"], rfl, okws_lit _ (by decide +kernel), by decide, by decide⟩
      · exact ⟨["athens", "over", "then"], rfl, okws_lit _ (by decide +kernel), by decide, by decide⟩
      · exact ⟨["end", "over", "under"], rfl, okws_lit _ (by decide +kernel), by decide, by decide⟩
      · exact ⟨["back", "is", "on"], rfl, okws_lit _ (by decide +kernel), by decide, by decide⟩
    · obtain ⟨ps, e, h1, h2, h3⟩ := hz
      cases e
      rw [show (3 : Int) = ((3 : Nat) : Int) from rfl, strsD_take]
      exact hB _ ⟨ps.take 3, rfl, fun w hw => h1 w (List.mem_of_mem_take hw), by rw [List.length_take]; omega, by rw [List.length_take]; omega⟩
  · refine es_retC 0 (A := B) (ec_sorted (A := isP) (ec_call C_law_words (hr.mono (by omega)) (eac_cons (ec_add (ec_of ev_int) (ec_draw C_law_draw (hr.mono (by omega)) (ev_var 1 rfl) (by decide) (by decide)) eq_int isN.int) eac_nil) (fun ds h => ?_)) (fun z hz => by obtain ⟨ps, e, _, _, h3⟩ := hz; exact ⟨ps, e, by omega⟩) (fun l m hl hm => ?_) G.sorted (by decide +kernel)) (fun d hd => ⟨⟨d, rfl, hd⟩, _, rfl, by omega⟩) (by omega)
    · obtain ⟨z, t, rfl, ⟨j, l, rfl, hj, k, e, k0, k1⟩, rfl⟩ := h
      cases hj; cases e
      exact ⟨1 + l, rfl, by omega, by omega, fun ws h1 h2 => ⟨ws, rfl, h1, by omega, by omega⟩⟩
    · obtain ⟨ps, e, h1, h2, h3⟩ := hl
      have e := strsD_inj (PyData.list.inj e)
      subst e
      exact hB _ ⟨m, rfl, fun w hw => h1 w (hm.mem_iff.mp hw), by rw [hm.length_eq]; exact h2, by rw [hm.length_eq]; exact h3⟩
/-! ### _law_kind -/
abbrev st_law_kind : Stmt := top 69
theorem sc_law_kind : FnScope ["_law_purse_here", "_law_plains_here", "_law_signs_here", "_law_first", "_law_one", "_law_other"] ["_law_purse_here", "_law_plains_here", "_law_signs_here"] (defScope st_law_kind) := ⟨rfl, rfl, rfl, by decide +kernel, rfl, by decide +kernel, by decide +kernel⟩
def isK (s : Nat) (z : PyData) : Prop := ∃ k : Kd, z = emb k ∧ k.ok = true ∧ k.sg = s
def r_law_kind (n : Nat) : List PyData → (PyData → Prop) → Prop := fun ds B => ∃ (pl : PyData) (s : Nat), ds = [pl, .int (s : Int)] ∧ isP pl ∧ s ≤ n ∧ ∀ z, isK s z → B z
theorem wd_of {d : PyData} (h : d ∈ [PyData.str "over", .str "over", .str "then", .str "under", .str "under"]) : ∃ u : MM.Wd, d = .str (Wd.nm u) := by
  simp only [List.mem_cons, List.not_mem_nil, or_false] at h
  rcases h with h | h | h | h | h
  · exact ⟨.ov, h⟩
  · exact ⟨.ov, h⟩
  · exact ⟨.th, h⟩
  · exact ⟨.un, h⟩
  · exact ⟨.un, h⟩
theorem emb_mk (u : MM.Wd) (a b : Kd) : PyData.tuple [.str (Wd.nm u), emb a, emb b] = emb (u.mk a b) := by cases u <;> rfl
theorem ok_mk (u : MM.Wd) {a b : Kd} (ha : a.ok = true) (hb : b.ok = true) : (u.mk a b).ok = true := by cases u <;> exact ok2' ha hb
theorem sg_mk (u : MM.Wd) (a b : Kd) : (u.mk a b).sg = a.sg + b.sg + 1 := by cases u <;> rfl
theorem ok_law_kind (G : Mg K mg) (C_law_draw : Cal P w K mg base 2 "_law_draw" ["_law_purse_here", "_law_many"] (spC K 1 r_law_draw)) (C_law_one_of : Cal P w K mg base 3 "_law_one_of" ["_law_purse_here", "_law_some"] (spC K 1 r_law_one_of)) (F : Fun K "_law_kind" "_law_kind" st_law_kind f fd) (bF : Binds K fd ["_law_purse_here", "_law_plains_here", "_law_signs_here"] []) (mF : mg "_law_kind" = some (.ref f)) :
    ∀ n : Nat, n ≤ 2 → FnOk P w K mg base CX0 (n + 4) f fd ["_law_purse_here", "_law_plains_here", "_law_signs_here"] (spC K (costK n) (r_law_kind n)) := by
  have key : ∀ n : Nat, n ≤ 2 → (∀ m, n = m + 1 → Cal P w K mg base (m + 4) "_law_kind" ["_law_purse_here", "_law_plains_here", "_law_signs_here"] (spC K (costK m) (r_law_kind m))) → FnOk P w K mg base CX0 (n + 4) f fd ["_law_purse_here", "_law_plains_here", "_law_signs_here"] (spC K (costK n) (r_law_kind n)) := by
    intro n h10 ih
    refine Fun.okC F sc_law_kind (costK n) (r_law_kind n) (by rintro _ _ ⟨_, _, rfl, _⟩; rfl) (by decide) fun cdv A outer s H E hr ds B c h hcap => ?_
    have nd := sc_law_kind.nd
    obtain ⟨pl, s, rfl, ⟨ps, rfl, hps, p0, p3⟩, hs, hB⟩ := h
    show EW _ _ [.purse, .dat (.list (strsD ps)), .dat (.int (s : Int)), .unk, .unk, .unk] _ _ _
    have hc1 : 1 ≤ costK n := by cases n with | zero => exact Nat.le_refl 1 | succ n => show 1 ≤ 2 * costK n + 3; omega
    cases s with
    | zero =>
      refine ew_cons (es_ifT (et_cmp (CmpR.to cm_eqI rfl) (ev_var 2 rfl) ev_int) (ew_one (es_retC 0 (A := B) (ec_call C_law_one_of (hr.mono (by omega)) (eac_cons (ec_of (ev_var 1 rfl)) eac_nil) (fun ds h => ?_)) (fun d hd => ⟨⟨d, rfl, hd⟩, _, rfl, by omega⟩) (by omega))))
      obtain ⟨z, t, rfl, rfl, rfl⟩ := h
      refine ⟨_, rfl, by rw [strsD_len]; exact p0, by rw [strsD_len]; omega, fun d hd => ?_⟩
      obtain ⟨w, hw, rfl⟩ := List.mem_map.mp hd
      exact hB _ ⟨.pl w, rfl, hps w hw, rfl⟩
    | succ s =>
      cases n with
      | zero => omega
      | succ n =>
        have C_law_kind := ih n rfl
        have hck : costK (n + 1) = 2 * costK n + 3 := rfl
        refine ew_cons (es_ifF (et_cmp (CmpR.to cm_eqI (decide_eq_false (by omega))) (ev_var 2 rfl) ev_int) (ew_nil ?_))
        refine ew_cons (es_setC 0 3 (ec_draw C_law_draw (hr.mono (by omega)) (ev_var 2 rfl) (by omega) (by omega)) (fun d hd => ?_) (by omega) (nd := nd))
        obtain ⟨fi, rfl, f0, f1⟩ := hd
        obtain ⟨t, rfl⟩ : ∃ t : Nat, fi = (t : Int) := ⟨fi.toNat, by omega⟩
        refine ⟨.inr rfl, EW.nrm [_, _, _, _, _, _] rfl ?_⟩
        have hts : t ≤ s := by omega
        have e2 : (((s + 1 : Nat) : Int) - 1 - (t : Int)) = ((s - t : Nat) : Int) := by omega
        refine ew_cons (es_parC 0 4 5 (A := isK t) (B := isK (s - t)) (ec_call C_law_kind (hr.mono (by omega)) (eac_cons (ec_of (ev_var 1 rfl)) (eac_cons (ec_of (ev_var 3 rfl)) eac_nil)) (fun ds h => ?_)) (ec_call C_law_kind (hr.mono (by omega)) (eac_cons (ec_of (ev_var 1 rfl)) (eac_cons (ec_of (eg_bin br_sub (eg_bin br_sub (ev_var 2 rfl) ev_int) (ev_var 3 rfl))) eac_nil)) (fun ds h => ?_)) (fun d e hd he => ?_) (by omega) (nd := nd))
        · obtain ⟨z, r, rfl, rfl, z2, r2, rfl, rfl, rfl⟩ := h
          exact ⟨_, t, rfl, ⟨ps, rfl, hps, p0, p3⟩, by omega, fun z hz => hz⟩
        · obtain ⟨z, r, rfl, rfl, z2, r2, rfl, rfl, rfl⟩ := h
          rw [e2]
          exact ⟨_, s - t, rfl, ⟨ps, rfl, hps, p0, p3⟩, by omega, fun z hz => hz⟩
        obtain ⟨a, rfl, ha, sa⟩ := hd
        obtain ⟨b, rfl, hb, sb⟩ := he
        refine ⟨.inr ⟨nl_emb a, nl_emb b⟩, EW.nrm [_, _, _, _, _, _] rfl ?_⟩
        refine ew_one (es_retC 0 (ec_tup (eac_cons (ec_call (A := fun z => ∃ u : MM.Wd, z = .str (Wd.nm u)) C_law_one_of (hr.mono (by omega)) (eac_cons (ec_of (EG.ev (el_lst (ea_cons ev_str (ea_cons ev_str (ea_cons ev_str (ea_cons ev_str (ea_cons ev_str ea_nil))))) (small_len rfl)))) eac_nil) (fun ds h => ?_)) (eac_cons (ec_of (ev_var 4 rfl)) (eac_cons (ec_of (ev_var 5 rfl)) eac_nil))) ?_) (fun d hd => ?_) (by omega))
        · obtain ⟨z, r, rfl, rfl, rfl⟩ := h
          exact ⟨_, rfl, by decide, by decide, fun d hd => wd_of hd⟩
        · rintro l ⟨z, r, rfl, _, z2, r2, rfl, _, z3, r3, rfl, _, rfl⟩
          show 3 ≤ 1000
          omega
        · obtain ⟨l, rfl, z, r, rfl, ⟨u, rfl⟩, z2, r2, rfl, rfl, z3, r3, rfl, rfl, rfl⟩ := hd
          rw [emb_mk]
          exact ⟨⟨_, rfl, hB _ ⟨u.mk a b, rfl, ok_mk u ha hb, by rw [sg_mk]; omega⟩⟩, _, rfl, by omega⟩
  intro n
  induction n with
  | zero => exact fun h => key 0 h fun m e => by cases e
  | succ n ih => exact fun h => key (n + 1) h fun m e => by cases e; exact cal_of mF F.kp bF (ih (by omega))
/-! ### _law_signs -/
abbrev st_law_signs : Stmt := top 70
theorem sc_law_signs : FnScope ["_law_kind_here"] ["_law_kind_here"] (defScope st_law_signs) := ⟨rfl, rfl, rfl, by decide +kernel, rfl, by decide +kernel, by decide +kernel⟩
def r_law_signs (n : Nat) : List PyData → Res → Prop := fun ds r => ∃ k : Kd, ds = [emb k] ∧ k.dep ≤ n ∧ r = .dat (.int (k.sg : Nat))
theorem ok_law_signs (G : Mg K mg) (F : Fun K "_law_signs" "_law_signs" st_law_signs f fd) (bF : Binds K fd ["_law_kind_here"] []) (mF : mg "_law_signs" = some (.ref f)) :
    ∀ n : Nat, n ≤ 40 → FnOk P w K mg base CX0 (n + 1) f fd ["_law_kind_here"] (spR K (r_law_signs n)) := by
  have key : ∀ n : Nat, n ≤ 40 → (∀ m, n = m + 1 → Cal P w K mg base n "_law_signs" ["_law_kind_here"] (spR K (r_law_signs m))) → FnOk P w K mg base CX0 (n + 1) f fd ["_law_kind_here"] (spR K (r_law_signs n)) := by
    intro n h10 ih
    refine Fun.okR F sc_law_signs (r_law_signs n) (by rintro _ _ ⟨_, rfl, _⟩; rfl) fun cdv A outer s H E hr ds r h => ?_
    have nd := sc_law_signs.nd
    obtain ⟨k, rfl, hd, rfl⟩ := h
    cases k with
    | pl w => exact (ew_one (es_ret (eg_ifT (et_val (G.isi .str rfl rfl rfl (ev_var 0 rfl))) ev_int) rfl))
    | ov a b =>
      cases n with
      | zero => exact absurd hd (Nat.not_succ_le_zero _)
      | succ m =>
        have C_law_signs := ih m rfl
        exact (ew_one (es_ret (eg_ifF (et_val (G.isi .str rfl rfl rfl (ev_var 0 rfl))) (eg_bin br_add (eg_bin br_add ev_int (eg_call C_law_signs (hr.mono (by omega)) (ea_cons (ev_ix (ev_var 0 rfl) ev_int rfl) ea_nil) ⟨a, rfl, by have : max a.dep b.dep + 1 ≤ m + 1 := hd; omega, rfl⟩)) (eg_call C_law_signs (hr.mono (by omega)) (ea_cons (ev_ix (ev_var 0 rfl) ev_int rfl) ea_nil) ⟨b, rfl, by have : max a.dep b.dep + 1 ≤ m + 1 := hd; omega, rfl⟩))) (congrArg (fun z => Res.dat (PyData.int z)) (by show (1 + (a.sg : Int)) + (b.sg : Int) = ((a.sg + b.sg + 1 : Nat) : Int); omega))))
    | un a b =>
      cases n with
      | zero => exact absurd hd (Nat.not_succ_le_zero _)
      | succ m =>
        have C_law_signs := ih m rfl
        exact (ew_one (es_ret (eg_ifF (et_val (G.isi .str rfl rfl rfl (ev_var 0 rfl))) (eg_bin br_add (eg_bin br_add ev_int (eg_call C_law_signs (hr.mono (by omega)) (ea_cons (ev_ix (ev_var 0 rfl) ev_int rfl) ea_nil) ⟨a, rfl, by have : max a.dep b.dep + 1 ≤ m + 1 := hd; omega, rfl⟩)) (eg_call C_law_signs (hr.mono (by omega)) (ea_cons (ev_ix (ev_var 0 rfl) ev_int rfl) ea_nil) ⟨b, rfl, by have : max a.dep b.dep + 1 ≤ m + 1 := hd; omega, rfl⟩))) (congrArg (fun z => Res.dat (PyData.int z)) (by show (1 + (a.sg : Int)) + (b.sg : Int) = ((a.sg + b.sg + 1 : Nat) : Int); omega))))
    | th a b =>
      cases n with
      | zero => exact absurd hd (Nat.not_succ_le_zero _)
      | succ m =>
        have C_law_signs := ih m rfl
        exact (ew_one (es_ret (eg_ifF (et_val (G.isi .str rfl rfl rfl (ev_var 0 rfl))) (eg_bin br_add (eg_bin br_add ev_int (eg_call C_law_signs (hr.mono (by omega)) (ea_cons (ev_ix (ev_var 0 rfl) ev_int rfl) ea_nil) ⟨a, rfl, by have : max a.dep b.dep + 1 ≤ m + 1 := hd; omega, rfl⟩)) (eg_call C_law_signs (hr.mono (by omega)) (ea_cons (ev_ix (ev_var 0 rfl) ev_int rfl) ea_nil) ⟨b, rfl, by have : max a.dep b.dep + 1 ≤ m + 1 := hd; omega, rfl⟩))) (congrArg (fun z => Res.dat (PyData.int z)) (by show (1 + (a.sg : Int)) + (b.sg : Int) = ((a.sg + b.sg + 1 : Nat) : Int); omega))))
  intro n
  induction n with
  | zero => exact fun h => key 0 h fun m e => by cases e
  | succ n ih => exact fun h => key (n + 1) h fun m e => by cases e; exact cal_of mF F.kp bF (ih (by omega))
end
end PU
namespace PU
open PySem PySem.Spec PyProof.Rows L2 StX MM
section
variable {X : Cx} {δ : PEnv} {e a b c : Expr} {es : List Expr} {pos : Pos} {d x y : PyData} {ds xs ys : List PyData} {k : Bool}
theorem tlcE_core {elt tg iter : Expr} {scope : Scope} {own : List (Str × Nat)} {g : TG} (hc : X.calm = true) (hN : X.N.Nodup) (hi : EI X tg iter δ ds) (ok : BlkOk X.N X.env.scope scope own)
    (hg : ∀ (s : Shared) (H : Hp) (C : Addr) (cl : List (Str × Addr)) (fp : List Addr), PG (X.blk s H scope (compEnvC scope cl C X.env) fp) tg g)
    (hl : xs.length = ds.length) (hstep : ∀ (i : Nat) d x, ds[i]? = some d → xs[i]? = some x → ∃ t, TgtOk X.K (own.map (·.2)) g d t ∧ EGB X scope elt (t (wipeD δ (own.map (·.2)))) (.dat x))
    (hlen : ds.length ≤ sizeLine) (hs : ∀ x, foldedSetIterable iter X.env x = pure x := by intro _; rfl) :
    ∀ (S : Addr → Prop) (σ : L2.St) (H : Hp) (Q : VK), Ok X.K S H σ δ → (∀ v H', Same H H' → Got X.K S H H' v (.fresh xs) → Q v H') → tLc (sI X tg iter) g tYes (sEB X scope elt) (own.map (·.2)) σ H Q := fun S σ H Q okE q => by
  refine hi S σ H _ okE fun J H1 s1 W => ?_
  intro D hD
  have hn0 := same_new hD
  let P : Nat → Hp → Prop := fun i H2 => Same H1 H2 ∧ ∃ vs, H2 D = some (.lst vs) ∧ RepAll X.K (hide (fun a => S a ∨ a = D) H2) vs (xs.take i)
  refine ⟨fun i m H2 => m = ds.length - i ∧ i ≤ ds.length ∧ P i H2, ⟨ds.length, by simp, Nat.zero_le _, hn0 _, [], upd_same, by rw [List.take_zero]; exact .nil⟩, ?_⟩
  rintro i m H2 ⟨rfl, hle, s2, vs, hv, hr⟩
  have sS : Same (hide S H1) (hide S H2) := hide_same s2
  have okH : Ok X.K (fun a => S a ∨ a = D) H2 σ δ := by
    have o1 := okE.m s1
    refine { len := o1.len, hid := fun a ha => ?_, dat := fun j d hj => ?_ }
    · rcases ha with ha | ha
      · exact (o1.m s2).hid a ha
      · subst ha; rw [hv]; exact fun z => nomatch z
    · obtain ⟨v, h1, h2⟩ := o1.dat j d hj
      exact ⟨v, h1, h2.m (hide_free hD s2)⟩
  by_cases hlt : i < ds.length
  · refine .inr ⟨W.go H2 i sS hlt, P (i + 1), fun H' p' => ⟨ds.length - (i + 1), by omega, rfl, hlt, p'⟩, fun x H' hy => ?_⟩
    obtain ⟨s3, d, hd, hx⟩ := W.yld (fun a => S a ∨ a = D) H2 i x H' okH.hid (fun a ha => ha.elim .inl fun e => .inr (by rw [e]; exact hD)) sS hlt hy
    have hxi : xs[i]? = some xs[i] := List.getElem?_eq_getElem (by rw [hl]; exact hlt)
    obtain ⟨t, tg1, el1⟩ := hstep i d _ hd hxi
    refine tg1 (fun a => S a ∨ a = D) σ H' x (wipeD δ (own.map (·.2))) _ hx ((okH.m s3).wipe _) fun σ2 hw2 ok2 => ⟨hw2, ?_⟩
    refine iteT (B := P (i + 1) H') ?_
    intro sh Hh C cl fp
    refine el1 sh Hh C cl fp (fun a => S a ∨ a = D) σ2 H' _ ok2 fun y H4 s5 g5 => ?_
    have s6 : Same H2 H4 := s3.trans s5
    have hD4 := s6 _ _ hv
    have hrl := hr.length
    rw [List.length_take] at hrl
    refine ⟨vs, hD4, by have := Nat.min_le_left i xs.length; omega, fun b u hb => ?_, vs ++ [y], upd_same, ?_⟩
    · rw [upd_ne (ne_of_none hb hD)]
      exact s6 _ _ (s2 _ _ hb)
    · have e0 : hide (fun a => S a ∨ a = D) (upd H4 D (.lst (vs ++ [y]))) = hide (fun a => S a ∨ a = D) H4 := hide_upd (.inr rfl)
      rw [e0, List.take_add_one, hxi]
      exact (hr.m (hide_same s6)).append (.cons g5 .nil)
  · have e : i = ds.length := by omega
    subst e
    refine .inl ⟨W.stop H2 sS, q _ _ (s1.trans s2) ⟨D, vs, rfl, s1.free hD, hv, ?_⟩⟩
    rw [← hl, List.take_length] at hr
    exact hr
end
section
variable {X : Cx} {δ : SEnv} {n : Bud} {N : SEnv → Bud → Prop} {R : Res → Bud → Prop} {pos : Pos} {ds xs : List PyData}
/-- y = [elt for tg in iter], y a local -/
theorem es_setLcE {elt tg iter : Expr} {scope : Scope} {own : List (Str × Nat)} {g : TG} {y : Str} {py spos : Pos} (i0 : Nat) (nd : X.N.Nodup) (hi : EI X tg iter (flat δ) ds) (ok : BlkOk X.N X.env.scope scope own)
    (hg : ∀ (s : Shared) (H : Hp) (C : Addr) (cl : List (Str × Addr)) (fp : List Addr), PG (X.blk s H scope (compEnvC scope cl C X.env) fp) tg g)
    (hl : xs.length = ds.length) (hstep : ∀ (i : Nat) d x, ds[i]? = some d → xs[i]? = some x → ∃ t, TgtOk X.K (own.map (·.2)) g d t ∧ EGB X scope elt (t (wipeD (flat δ) (own.map (·.2)))) (.dat x))
    (hlen : ds.length ≤ sizeLine) (hN : N (δ.set i0 (.own xs)) n) (safe : noOwnBut δ i0 ∨ nlAll xs = true)
    (hsw : swapsWith (.ListComp elt [⟨tg, iter, [], 0⟩] scope pos) (some (.Name y py)) spos.line X.env = pure true := by rfl)
    (hy : X.N[i0]? = some y := by rfl) (hyl : X.env.scope.names.lookup y = some .local := by rfl) (hc : X.calm = true := by rfl) (hs : ∀ x, foldedSetIterable iter X.env x = pure x := by intro _; rfl) :
    ES X (.Assign [.Name y py] (.ListComp elt [⟨tg, iter, [], 0⟩] scope pos) spos) δ n N R := fun p S H0 D σ H A okS pu hn hr => by
  refine sS_of (ps_setLc hc nd hy hyl hsw pi_s ok hg (fun _ _ _ _ _ => pts_nil) pe_sB hs) ?_
  refine tlcE_core hc nd hi ok hg hl hstep hlen hs S σ H _ okS.ok fun v H1 s1 g1 => ?_
  obtain ⟨A', ok'⟩ := okS.put s1 g1 (i := i0) safe
  exact hn _ n _ H1 A' hN ok' (pu.m s1)
theorem es_setLcT2 {α : Type} {elt iter : Expr} {scope : Scope} {x y z : Str} {px py pt pz spos : Pos} {kk : Nat} {l : List α} {g1 g2 f : α → PyData} (i0 i j : Nat) (nd : X.N.Nodup) (hi : EI X (.Tuple [.Name x px, .Name y py] kk pt) iter (flat δ) (l.map fun z => PyData.tuple [g1 z, g2 z])) (hb : blkC X.N X.env.scope scope [(x, i), (y, j)] = true)
    (hstep : ∀ z ∈ l, EGB X scope elt (((wipeD (flat δ) [i, j]).set i (some (g1 z))).set j (some (g2 z))) (.dat (f z))) (hlen : l.length ≤ sizeLine)
    (hg : ∀ (s : Shared) (H : Hp) (C : Addr) (cl : List (Str × Addr)) (fp : List Addr), PG (X.blk s H scope (compEnvC scope cl C X.env) fp) (.Tuple [.Name x px, .Name y py] kk pt) (gTup X.K 2 (gCons (gName i) (gCons (gName j) gNil))))
    (hN : N (δ.set i0 (.own (l.map f))) n) (safe : noOwnBut δ i0 ∨ nlAll (l.map f) = true)
    (hsw : swapsWith (.ListComp elt [⟨.Tuple [.Name x px, .Name y py] kk pt, iter, [], 0⟩] scope pos) (some (.Name z pz)) spos.line X.env = pure true := by rfl)
    (hy : X.N[i0]? = some z := by rfl) (hyl : X.env.scope.names.lookup z = some .local := by rfl) (hc : X.calm = true := by rfl) (hs : ∀ x, foldedSetIterable iter X.env x = pure x := by intro _; rfl) :
    ES X (.Assign [.Name z pz] (.ListComp elt [⟨.Tuple [.Name x px, .Name y py] kk pt, iter, [], 0⟩] scope pos) spos) δ n N R :=
  es_setLcE i0 nd hi (blkOk_by hb) hg (by rw [List.length_map, List.length_map]) (fun j' d z hd hz => by
    obtain ⟨y, h1, h2, rfl⟩ := map_get hd
    obtain ⟨y', h3, _, rfl⟩ := map_get hz
    rw [h1] at h3
    cases h3
    exact ⟨_, tgt_pair (i := i) (j := j) (by simp) (by simp), hstep y h2⟩) (by rw [List.length_map]; exact hlen) hN safe hsw hy hyl hc hs
end
end PU
namespace PU
open PySem PySem.Spec PyProof.Rows L2 StX MM

theorem ivl_rev (l : List Lt) : l.reverse.map iv = ivl l := by unfold ivl; rw [List.map_reverse]
theorem embL_rev (l : List Lt) : (embL l).reverse = l.reverse.map fun s => PyData.tuple [.str s.1, .int (sgn s.2)] := by unfold embL; rw [← List.map_reverse] <;> rfl
theorem embL_iv (l : List Lt) : (l.reverse.map fun s => embT (iv s)) = embL (ivl l) := by rw [← ivl_rev]; unfold embL; rw [List.map_map] <;> rfl
theorem embL_app (a b : List Lt) : embL (a ++ b) = embL a ++ embL b := List.map_append
theorem push_snoc {l : List Lt} {x y : Lt} (h : y ≠ iv x) : push (l ++ [y]) x = l ++ [y] ++ [x] := push_ne (by rw [List.getLast?_concat]; exact fun e => h (Option.some.inj e))
theorem push_nil (x : Lt) : push [] x = [x] := rfl
theorem cut_last {α : Type} (l : List α) (x : α) : cutD (l ++ [x]) (some (-1)) none = [x] := by
  unfold cutD
  rw [HT.sIx_none, sIx_neg1, List.length_append, List.length_singleton]
  simp
theorem cut_last0 {α : Type} : cutD ([] : List α) (some (-1)) none = [] := by
  unfold cutD
  simp
theorem unc_len' (k : Kd) : (unc k).length = k.sg + 1 := unc_len k
theorem put0 (l : List Lt) : put [] l = red l := rfl

section
variable {P : Program} {w : World} {K : PySem.W.Frag} {mg : Str → Option Value} {base : Heap} {f : Addr} {fd : FuncData}

/-! ### _law_uncancelled -/
abbrev st_law_uncancelled : Stmt := top 71
theorem sc_law_uncancelled : FnScope ["_law_kind_here", "_law_one", "_law_other", "_law_word_here", "_law_sign"] ["_law_kind_here"] (defScope st_law_uncancelled) := ⟨rfl, rfl, rfl, by decide +kernel, rfl, by decide +kernel, by decide +kernel⟩
def r_law_uncancelled (n : Nat) : List PyData → Res → Prop := fun ds r => ∃ k : Kd, ds = [emb k] ∧ k.dep ≤ n ∧ k.sg ≤ 1000 ∧ r = .fresh (embL (unc k))
theorem ok_law_uncancelled (G : Mg K mg) (F : Fun K "_law_uncancelled" "_law_uncancelled" st_law_uncancelled f fd) (bF : Binds K fd ["_law_kind_here"] []) (mF : mg "_law_uncancelled" = some (.ref f)) :
    ∀ n : Nat, n ≤ 40 → FnOk P w K mg base CX0 (n + 1) f fd ["_law_kind_here"] (spR K (r_law_uncancelled n)) := by
  have key : ∀ n : Nat, n ≤ 40 → (∀ m, n = m + 1 → Cal P w K mg base n "_law_uncancelled" ["_law_kind_here"] (spR K (r_law_uncancelled m))) → FnOk P w K mg base CX0 (n + 1) f fd ["_law_kind_here"] (spR K (r_law_uncancelled n)) := by
    intro n h10 ih
    refine Fun.okR F sc_law_uncancelled (r_law_uncancelled n) (by rintro _ _ ⟨_, rfl, _⟩; rfl) fun cdv A outer s H E hr ds r h => ?_
    have nd := sc_law_uncancelled.nd
    obtain ⟨k, rfl, hd, hs, rfl⟩ := h
    cases k with
    | pl w => exact (ew_cons (es_ifT (et_val (G.isi .str rfl rfl rfl (ev_var 0 rfl))) (ew_one (es_ret (el_lst (ea_cons (ev_tup (ea_cons (ev_var 0 rfl) (ea_cons ev_int ea_nil))) ea_nil) (small_len rfl)) rfl))))
    | ov a b =>
      cases n with
      | zero => exact absurd hd (Nat.not_succ_le_zero _)
      | succ m =>
        have C_law_uncancelled := ih m rfl
        have hd' : max a.dep b.dep + 1 ≤ m + 1 := hd
        have hs' : a.sg + b.sg + 1 ≤ 1000 := hs
        refine ew_cons (es_ifF (et_val (G.isi .str rfl rfl rfl (ev_var 0 rfl))) (ew_nil ?_))
        refine ew_cons (es_par 1 2 (eg_call C_law_uncancelled (hr.mono (by omega)) (ea_cons (ev_ix (ev_var 0 rfl) ev_int rfl) ea_nil) ⟨a, rfl, by omega, by omega, rfl⟩) (eg_call C_law_uncancelled (hr.mono (by omega)) (ea_cons (ev_ix (ev_var 0 rfl) ev_int rfl) ea_nil) ⟨b, rfl, by omega, by omega, rfl⟩) (EW.nrm [_, _, _, _, _] rfl ?_) (safe := .inr ⟨nl_embL _, nl_embL _⟩) (nd := nd))
        refine ew_cons (es_ifT (et_cmp (CmpR.to cm_eqS (show decide (("over" : Str) = "over") = true by decide +kernel)) (ev_ix (ev_var 0 rfl) ev_int rfl) ev_str) (ew_one (es_setLcT2 2 3 4 (l := (unc b).reverse) (g1 := fun s => .str s.1) (g2 := fun s => .int (sgn s.2)) (f := fun s => embT (iv s)) nd (ei_list (EG.ev (el_rev (ev_var 2 rfl) (embL_rev _)))) (show blkC ["_law_kind_here", "_law_one", "_law_other", "_law_word_here", "_law_sign"] (defScope st_law_uncancelled) _ _ = true by decide +kernel) (fun z hz => fun _ _ _ _ _ => EV.to (ev_tup (ea_cons (ev_var 3 rfl) (ea_cons (ev_neg (ev_var 4 rfl)) ea_nil))) (by rw [sgn_neg] <;> rfl)) (le_line (by rw [List.length_reverse, unc_len]; omega))
          (fun _ _ _ _ _ => pg_tup rfl (pgs_cons (pg_name nd rfl (Or.inl rfl)) (pgs_cons (pg_name nd rfl (Or.inl rfl)) pgs_nil))) ?_ (.inr (by rw [embL_iv]; exact nl_embL _)))))
        refine ew_cons (es_ifF (et_cmp (CmpR.to cm_eqS (show decide (("over" : Str) = "under") = false by decide +kernel)) (ev_ix (ev_var 0 rfl) ev_int rfl) ev_str) (ew_nil ?_))
        exact ew_one (es_ret (EG.cast (eg_bin (br_cat (le_line (by simp only [embL_len, List.length_map, List.length_reverse, unc_len]; omega))) (ev_var 1 rfl) (ev_var 2 rfl)) (r' := .fresh (embL (unc (.ov a b)))) (congrArg Res.fresh (by rw [embL_iv, ← embL_app] <;> rfl))) rfl)
    | un a b =>
      cases n with
      | zero => exact absurd hd (Nat.not_succ_le_zero _)
      | succ m =>
        have C_law_uncancelled := ih m rfl
        have hd' : max a.dep b.dep + 1 ≤ m + 1 := hd
        have hs' : a.sg + b.sg + 1 ≤ 1000 := hs
        refine ew_cons (es_ifF (et_val (G.isi .str rfl rfl rfl (ev_var 0 rfl))) (ew_nil ?_))
        refine ew_cons (es_par 1 2 (eg_call C_law_uncancelled (hr.mono (by omega)) (ea_cons (ev_ix (ev_var 0 rfl) ev_int rfl) ea_nil) ⟨a, rfl, by omega, by omega, rfl⟩) (eg_call C_law_uncancelled (hr.mono (by omega)) (ea_cons (ev_ix (ev_var 0 rfl) ev_int rfl) ea_nil) ⟨b, rfl, by omega, by omega, rfl⟩) (EW.nrm [_, _, _, _, _] rfl ?_) (safe := .inr ⟨nl_embL _, nl_embL _⟩) (nd := nd))
        refine ew_cons (es_ifF (et_cmp (CmpR.to cm_eqS (show decide (("under" : Str) = "over") = false by decide +kernel)) (ev_ix (ev_var 0 rfl) ev_int rfl) ev_str) (ew_nil ?_))
        refine ew_cons (es_ifT (et_cmp (CmpR.to cm_eqS (show decide (("under" : Str) = "under") = true by decide +kernel)) (ev_ix (ev_var 0 rfl) ev_int rfl) ev_str) (ew_one (es_setLcT2 1 3 4 (l := (unc a).reverse) (g1 := fun s => .str s.1) (g2 := fun s => .int (sgn s.2)) (f := fun s => embT (iv s)) nd (ei_list (EG.ev (el_rev (ev_var 1 rfl) (embL_rev _)))) (show blkC ["_law_kind_here", "_law_one", "_law_other", "_law_word_here", "_law_sign"] (defScope st_law_uncancelled) _ _ = true by decide +kernel) (fun z hz => fun _ _ _ _ _ => EV.to (ev_tup (ea_cons (ev_var 3 rfl) (ea_cons (ev_neg (ev_var 4 rfl)) ea_nil))) (by rw [sgn_neg] <;> rfl)) (le_line (by rw [List.length_reverse, unc_len]; omega))
          (fun _ _ _ _ _ => pg_tup rfl (pgs_cons (pg_name nd rfl (Or.inl rfl)) (pgs_cons (pg_name nd rfl (Or.inl rfl)) pgs_nil))) ?_ (.inr (by rw [embL_iv]; exact nl_embL _)))))
        exact ew_one (es_ret (EG.cast (eg_bin (br_cat (le_line (by simp only [embL_len, List.length_map, List.length_reverse, unc_len]; omega))) (ev_var 1 rfl) (ev_var 2 rfl)) (r' := .fresh (embL (unc (.un a b)))) (congrArg Res.fresh (by rw [embL_iv, ← embL_app] <;> rfl))) rfl)
    | th a b =>
      cases n with
      | zero => exact absurd hd (Nat.not_succ_le_zero _)
      | succ m =>
        have C_law_uncancelled := ih m rfl
        have hd' : max a.dep b.dep + 1 ≤ m + 1 := hd
        have hs' : a.sg + b.sg + 1 ≤ 1000 := hs
        refine ew_cons (es_ifF (et_val (G.isi .str rfl rfl rfl (ev_var 0 rfl))) (ew_nil ?_))
        refine ew_cons (es_par 1 2 (eg_call C_law_uncancelled (hr.mono (by omega)) (ea_cons (ev_ix (ev_var 0 rfl) ev_int rfl) ea_nil) ⟨a, rfl, by omega, by omega, rfl⟩) (eg_call C_law_uncancelled (hr.mono (by omega)) (ea_cons (ev_ix (ev_var 0 rfl) ev_int rfl) ea_nil) ⟨b, rfl, by omega, by omega, rfl⟩) (EW.nrm [_, _, _, _, _] rfl ?_) (safe := .inr ⟨nl_embL _, nl_embL _⟩) (nd := nd))
        refine ew_cons (es_ifF (et_cmp (CmpR.to cm_eqS (show decide (("then" : Str) = "over") = false by decide +kernel)) (ev_ix (ev_var 0 rfl) ev_int rfl) ev_str) (ew_nil ?_))
        refine ew_cons (es_ifF (et_cmp (CmpR.to cm_eqS (show decide (("then" : Str) = "under") = false by decide +kernel)) (ev_ix (ev_var 0 rfl) ev_int rfl) ev_str) (ew_nil ?_))
        exact ew_one (es_ret (EG.cast (eg_bin (br_cat (le_line (by simp only [embL_len, List.length_map, List.length_reverse, unc_len]; omega))) (ev_var 1 rfl) (ev_var 2 rfl)) (r' := .fresh (embL (unc (.th a b)))) (congrArg Res.fresh (by rw [← embL_app] <;> rfl))) rfl)
  intro n
  induction n with
  | zero => exact fun h => key 0 h fun m e => by cases e
  | succ n ih => exact fun h => key (n + 1) h fun m e => by cases e; exact cal_of mF F.kp bF (ih (by omega))
/-! ### _law_cancelled -/
abbrev st_law_cancelled : Stmt := top 72
theorem sc_law_cancelled : FnScope ["_law_letters_here", "_law_found", "_law_word_here", "_law_sign"] ["_law_letters_here"] (defScope st_law_cancelled) := ⟨rfl, rfl, rfl, by decide +kernel, rfl, by decide +kernel, by decide +kernel⟩
def r_law_cancelled : List PyData → Res → Prop := fun ds r => ∃ l : List Lt, ds = [.list (embL l)] ∧ (∀ x ∈ l, okw x.1 = true) ∧ l.length ≤ 1000 ∧ r = .dat (.list (embL (red l)))
theorem eqv_one (x y : Lt) : PyData.eqv (.list [embT x]) (.list [embT y]) = decide (x = y) := by
  show (PyData.eqv (embT x) (embT y) && true) = _
  rw [eqv_embT, Bool.and_true]
theorem dep_one (x : Lt) : (PyData.list [embT x]).depth ≤ 2 := dep_listL [x]
theorem lay_one {x : Lt} (h : okw x.1 = true) : (PyData.list [embT x]).canLay0 = true := lay_embL (l := [x]) fun y hy => by rw [List.mem_singleton] at hy; subst hy; exact h
theorem ok_law_cancelled (G : Mg K mg) (F : Fun K "_law_cancelled" "_law_cancelled" st_law_cancelled f fd) : FnOk P w K mg base CX0 1 f fd ["_law_letters_here"] (spR K r_law_cancelled) := by
  refine Fun.okR F sc_law_cancelled r_law_cancelled (by rintro _ _ ⟨_, rfl, _⟩; rfl) fun cdv A outer s H E hr ds r h => ?_
  have nd := sc_law_cancelled.nd
  have hu := hr.units
  obtain ⟨l, rfl, hl, hlen, rfl⟩ := h
  refine ew_cons (es_set 1 (r := .dat (.list (embL []))) (EG.ev (el_lst ea_nil (small_len rfl))) (EW.nrm [_, _, _, _] rfl (ew_cons ?_)) (nd := nd))
  refine es_for2 (ds := embL l) 2 3 (fun m δ' n' => ∃ x y : Slot, δ' = [.dat (.list (embL l)), .dat (.list (embL (put [] (l.take m)))), x, y] ∧ n' = .none ∧ no1 x ∧ no1 y) (ei_list (ev_var 0 rfl)) ⟨.unk, .unk, rfl, rfl, rfl, rfl⟩ (fun m d δ' n' hdm hI => ?_) (fun δ' n' hI => ?_) nd
  · obtain ⟨x, y, rfl, rfl, hx, hy⟩ := hI
    obtain ⟨z, hz, hzm, rfl⟩ := map_get hdm
    have hcur : ∀ x ∈ put [] (l.take m), okw x.1 = true := fun x hx => (put_mem _ _ _ hx).elim (fun h => nomatch h) fun h => hl x (List.mem_of_mem_take h)
    have hcl : (put [] (l.take m)).length ≤ 1000 := by
      have := put_len (l.take m) []
      have := List.length_take_le m l
      have := List.length_take_le' m l
      simp only [List.length_nil] at *
      omega
    have hokz := hl z hzm
    rw [take_snoc hz, put_snoc]
    generalize put [] (l.take m) = cur at hcur hcl
    refine ⟨_, _, rfl, .inr ⟨rfl, rfl⟩, EW.nrm [_, _, _, _] rfl (ew_one ?_)⟩
    rcases List.eq_nil_or_concat cur with rfl | ⟨c', y', rfl⟩
    · rw [push_nil]
      refine es_ifF (et_cmp (CmpR.to (cm_eq (x := .list []) (y := .list [embT (iv z)]) hu rfl (lay_one (x := iv z) hokz) (by rw [show (PyData.list []).depth = 1 from rfl]; omega)) rfl) (EG.ev (el_slice (ev_var 1 rfl) (eo_some (ev_neg ev_int)) eo_none cut_last0)) (EG.ev (el_lst (ea_cons (EV.to (d' := embT (iv z)) (ev_tup (ea_cons (ev_var 2 rfl) (ea_cons (ev_neg (ev_var 3 rfl)) ea_nil))) (by rw [sgn_neg] <;> rfl)) ea_nil) (small_len rfl)))) ?_
      exact ew_one (es_set 1 (r := .dat (.list (embL [z]))) (EV.to (EG.ev (eg_bin (br_cat (le_line (by show 0 + 1 ≤ 100000; omega))) (ev_var 1 rfl) (EG.ev (el_lst (ea_cons (ev_tup (ea_cons (ev_var 2 rfl) (ea_cons (ev_var 3 rfl) ea_nil))) ea_nil) (small_len rfl))))) rfl) ⟨_, _, rfl, rfl, rfl, rfl⟩ (nd := nd))
    · rw [List.concat_eq_append] at *
      have hy' := hcur y' (List.mem_append_right _ List.mem_cons_self)
      by_cases e : y' = iv z
      · refine es_ifT (et_cmp (CmpR.to (cm_eq (x := .list [embT y']) (y := .list [embT (iv z)]) hu (lay_one hy') (lay_one (x := iv z) hokz) (by have := dep_one y'; omega)) ((eqv_one _ _).trans (decide_eq_true e))) (EG.ev (el_slice (ev_var 1 rfl) (eo_some (ev_neg ev_int)) eo_none (by rw [embL_snoc]; exact cut_last _ _))) (EG.ev (el_lst (ea_cons (EV.to (d' := embT (iv z)) (ev_tup (ea_cons (ev_var 2 rfl) (ea_cons (ev_neg (ev_var 3 rfl)) ea_nil))) (by rw [sgn_neg] <;> rfl)) ea_nil) (small_len rfl)))) ?_
        subst e
        rw [push_pop]
        exact ew_one (es_set 1 (r := .dat (.list (embL c'))) (EG.ev (el_slice (ev_var 1 rfl) eo_none (eo_some (ev_neg ev_int)) (by rw [embL_snoc]; exact cut_init _ _))) ⟨_, _, rfl, rfl, rfl, rfl⟩ (nd := nd))
      · refine es_ifF (et_cmp (CmpR.to (cm_eq (x := .list [embT y']) (y := .list [embT (iv z)]) hu (lay_one hy') (lay_one (x := iv z) hokz) (by have := dep_one y'; omega)) ((eqv_one _ _).trans (decide_eq_false e))) (EG.ev (el_slice (ev_var 1 rfl) (eo_some (ev_neg ev_int)) eo_none (by rw [embL_snoc]; exact cut_last _ _))) (EG.ev (el_lst (ea_cons (EV.to (d' := embT (iv z)) (ev_tup (ea_cons (ev_var 2 rfl) (ea_cons (ev_neg (ev_var 3 rfl)) ea_nil))) (by rw [sgn_neg] <;> rfl)) ea_nil) (small_len rfl)))) ?_
        rw [push_snoc e]
        exact ew_one (es_set 1 (r := .dat (.list (embL (c' ++ [y'] ++ [z])))) (EV.to (EG.ev (eg_bin (br_cat (le_line (by rw [embL_len]; show _ + 1 ≤ 100000; omega))) (ev_var 1 rfl) (EG.ev (el_lst (ea_cons (ev_tup (ea_cons (ev_var 2 rfl) (ea_cons (ev_var 3 rfl) ea_nil))) ea_nil) (small_len rfl))))) (by rw [embL_snoc (c' ++ [y'])] <;> rfl)) ⟨_, _, rfl, rfl, rfl, rfl⟩ (nd := nd))
  · obtain ⟨x, y, rfl, rfl, hx, hy⟩ := hI
    rw [show (embL l).length = l.length from embL_len l, List.take_length, put0]
    exact ew_one (es_ret (ev_var 1 rfl) rfl)
end
end PU
namespace PU
open PySem PySem.Spec PyProof.Rows L2 StX MM
section
variable {prog : Program} {w : World} {A : Around} {R : Result → Shared → Prop} {I : Addr} {fp wr : List Addr} {n : Nat} {P : Nat → Value → Prop} {St : Nat → Heap → Prop}
theorem sum_end (W : PySem.Walks prog w A.in1 I fp wr n P St) (S : Addr) (tot : Value) (htot : ∀ f t, tot ≠ .float f t) (s : Shared) (c : Nat) (stage : Int) (hst : St n s.heap) (hS : s.heap.get? S = some { cls := .type "list", dict := none, data := .seq #[tot] c, slots := #[] })
    (hR : ∀ h' tk, (∀ b o, b ∉ wr → s.heap.get? b = some o → h'.get? b = some o) → R (.ok (.ret tot)) { s with heap := h', toks := tk }) :
    codeAny (model prog w) A (.builtin "sum.loop" ⟨[.ref I, .ref S, rawInt stage, rawInt 0], []⟩) R s := by
  refine codeAny_builtin PySem.F.entry_sum_loop ?_
  rw [Around.under_plainId PySem.F.plain_sum_loop _]
  show wpAny _ A.in1 (seqItems? (.ref S) >>= _) _ _ s
  refine wpAny_bind (wpAny_seqItems hS rfl ?_)
  show wpAny _ A.in1 (tryCatch (pyNext (.ref I)) _ >>= _) _ _ s
  refine wpAny_bind (wpAny_tryCatch (W.done s _ _ hst fun h' tk hk' => ?_))
  cases tot with
  | float f t => exact absurd rfl (htot f t)
  | _ => exact wpAny_pure (hR h' tk hk')
theorem sum_step (W : PySem.Walks prog w A.in1 I fp wr 1 P St) (S a b : Addr) (its : Array Value) (na nb c : Nat) (s : Shared) (hSf : S ∉ fp) (hSz : s.heap.objs.size ≤ S + 1) (hfp : ∀ q ∈ fp, q < s.heap.objs.size) (hP : ∀ v, P 0 v → v = .ref a) (hst : St 0 s.heap) (hS : s.heap.get? S = some { cls := .type "list", dict := none, data := .seq #[.ref b] c, slots := #[] })
    (ha : s.heap.get? a = some { cls := .type "list", data := .seq its na }) (hb : s.heap.get? b = some { cls := .type "list", data := .seq #[] nb }) (haw : a ∉ wr) (hbw : b ∉ wr) (haS : a ≠ S) (hbS : b ≠ S) (hz : its.size ≤ sizeLine)
    (hR : ∀ h' tk p, (∀ q o, q ∉ wr → q ≠ S → s.heap.get? q = some o → h'.get? q = some o) → s.heap.objs.size ≤ p → h'.get? p = some { cls := .type "list", data := .seq its } → R (.ok (.ret (.ref p))) { s with heap := h', toks := tk }) :
    codeAny (model prog w) A (.builtin "sum.loop" ⟨[.ref I, .ref S, rawInt 2, rawInt 0], []⟩) R s := by
  have hSw : S ∉ wr := fun h => hSf (W.sub _ h)
  refine codeAny_builtin PySem.F.entry_sum_loop ?_
  rw [Around.under_plainId PySem.F.plain_sum_loop _]
  show wpAny _ A.in1 (seqItems? (.ref S) >>= _) _ _ s
  refine wpAny_bind (wpAny_seqItems hS rfl ?_)
  show wpAny _ A.in1 (tryCatch (pyNext (.ref I)) _ >>= _) _ _ s
  refine wpAny_bind (wpAny_tryCatch (W.item 0 s _ _ (by omega) hst fun v h' tk hP' hst' hk' => ?_))
  obtain rfl := hP v hP'
  have hS' := hk' S _ hSw hS
  have ha' := hk' a _ haw ha
  have hb' := hk' b _ hbw hb
  show wpAny _ A.in1 ((holding [Value.ref a] (binaryOp .Add (.ref b) (.ref a))).attempt >>= _) _ _ _
  refine wpAny_bind (wpAny_attempt (wpAny_holding (PySem.P.add_list hb' ha' ?_ (by simpa using hz))))
  rw [show (#[] ++ its : Array Value) = its by simp]
  have hSp := Heap.get?_push_of_some { cls := .type "list", data := .seq its } hS'
  show wpAny _ A.in1 (updateSeq S (fun _ => #[.ref h'.objs.size]) >>= _) _ _ _
  refine wpAny_bind ?_
  refine wpAny_updateSeq hSp rfl ?_
  have hS2 := Heap.get?_update_self (Obj.mapSeq fun _ => #[Value.ref h'.objs.size]) hSp rfl
  refine wpAny_bind (wpAny_letGo ?_)
  refine wpAny_bind ?_
  refine wpAny_updateSeq hS2 rfl (wpAny_pure ⟨plainId_quiet PySem.F.plain_sum_loop _, ?_⟩)
  have hlt : @LT.lt Nat instLTNat S h'.objs.size := Heap.lt_size hS'
  have hle : s.heap.objs.size ≤ h'.objs.size := by omega
  have old : ∀ q o, q ≠ S → h'.get? q = some o → (((h'.push { cls := .type "list", data := .seq its }).update S (Obj.mapSeq fun _ => #[Value.ref h'.objs.size])).update S (Obj.mapSeq fun _ => #[Value.ref h'.objs.size])).get? q = some o := fun q o hq e =>
    (Heap.get?_update_other _ _ (Ne.symm hq)).trans ((Heap.get?_update_other _ _ (Ne.symm hq)).trans (Heap.get?_push_of_some _ e))
  refine sum_end W S (.ref h'.objs.size) (fun _ _ e => nomatch e) _ _ 2 (W.frame _ _ _ hst' fun q hq o e => old q o (fun z => hSf (by rw [← z]; exact hq)) e) (Heap.get?_update_self _ hS2 rfl) fun h'' tk'' hk'' => ?_
  refine hR h'' tk'' h'.objs.size (fun q o hq hqS e => hk'' q o hq (old q o hqS (hk' q o hq e))) ?_ (hk'' _ _ ?_ ?_)
  · exact hle
  · exact fun z => by have : @LT.lt Nat instLTNat h'.objs.size s.heap.objs.size := hfp _ (W.sub _ z); omega
  · exact (Heap.get?_update_other _ _ (Nat.ne_of_lt hlt)).trans ((Heap.get?_update_other _ _ (Nat.ne_of_lt hlt)).trans (Heap.get?_push_size _ rfl))
end
section
variable {prog : Program} {w : World} {A : Around} {E : Value → Shared → Prop} {s : Shared}
theorem args_sum2 (a b : Value) : argsOk "sum" ⟨[a, b], []⟩ := by unfold argsOk; kernel_rfl
/-- sum([a], []) -/
theorem sum_one {l a b : Addr} {its : Array Value} {na nb : Nat} {Q : Value → Shared → Prop} (hh : A.handled = none) (hl : s.heap.IsList l #[.ref a]) (ha : s.heap.get? a = some { cls := .type "list", data := .seq its na }) (hb : s.heap.get? b = some { cls := .type "list", data := .seq #[] nb }) (hz : its.size ≤ sizeLine)
    (h : ∀ h' tk p, (∀ q o, s.heap.get? q = some o → h'.get? q = some o) → s.heap.objs.size ≤ p → h'.get? p = some { cls := .type "list", data := .seq its } → Q (.ref p) { s with heap := h', toks := tk }) :
    wpAny (model prog w) A (call (.builtin "sum") [.ref l, .ref b]) Q E s := by
  refine call_function_tree PySem.F.kind_sum PySem.F.plain_sum PySem.F.entry_sum (args_sum2 _ _) ?_
  unfold Builtin.«sum»
  simp only [List.length_cons, List.length_nil]
  rw [if_neg (by decide)]
  refine wpAny_bind (wpAny_of_eq (show Builtin.Builtins.bindParams "sum" ["start"] 0 { pos := [.ref b] } = pure [some (.ref b)] from rfl) ?_)
  have hlt : @LT.lt Nat instLTNat l s.heap.objs.size := by obtain ⟨_, e, _⟩ := id hl; exact Heap.lt_size e
  have hbt : s.heap.get? b = some _ := hb
  refine wpAny_bind (wpAny_pyIter_list hl ?_)
  refine wpAny_bind (wpAny_pure ?_)
  have hb2 := Heap.get?_push_of_some { cls := .type "list_iterator", data := .fields #[.ref l, .int 0 0] } hb
  have tb : ({ s with heap := s.heap.push { cls := .type "list_iterator", data := .fields #[.ref l, .int 0 0] } } : Shared).TypeIs (.ref b) "list" := ⟨_, hb2, rfl⟩
  simp only [List.forIn_cons, List.forIn_nil]
  refine wpAny_bind (wpAny_bind (wpAny_bind (wpAny_isInstance (T := "list") (b := false) tb PySem.F.sub_list_str ?_)))
  simp only [Bool.false_eq_true, if_false]
  refine wpAny_pure (wpAny_bind (wpAny_bind (wpAny_isInstance (T := "list") (b := false) tb PySem.F.sub_list_bytes ?_)))
  simp only [Bool.false_eq_true, if_false]
  refine wpAny_pure (wpAny_bind (wpAny_bind (wpAny_isInstance (T := "list") (b := false) tb PySem.F.sub_list_bytearray ?_)))
  simp only [Bool.false_eq_true, if_false]
  refine wpAny_pure (wpAny_pure ?_)
  refine wpAny_bind (wpAny_newObj_type ?_)
  have ha2 := Heap.get?_push_of_some { cls := .type "list_iterator", data := .fields #[.ref l, .int 0 0] } ha
  have i0 : (s.heap.push { cls := .type "list_iterator", data := .fields #[.ref l, .int 0 0] }).IsListIter s.heap.objs.size l 0 := ⟨_, Heap.get?_push_size _ rfl, rfl, rfl⟩
  have hl2 := hl.push (h := s.heap) { cls := .type "list_iterator", data := .fields #[.ref l, .int 0 0] }
  have W := Walks.list (prog := prog) (w := w) (A := A.in1) hh s.heap.objs.size l (Nat.ne_of_lt hlt) #[.ref a]
  have hat : @LT.lt Nat instLTNat a s.heap.objs.size := Heap.lt_size ha
  have hbl : @LT.lt Nat instLTNat b s.heap.objs.size := Heap.lt_size hb
  have hs2 : (s.heap.push { cls := .type "list_iterator", data := .fields #[.ref l, .int 0 0] }).objs.size = s.heap.objs.size + 1 := Heap.size_push _ _
  have push3 := fun (q : Addr) (o : Obj) (e : (s.heap.push { cls := .type "list_iterator", data := .fields #[.ref l, .int 0 0] }).get? q = some o) => Heap.get?_push_of_some { cls := .type "list", data := .seq #[Value.ref b] } e
  refine wpAny_pure ⟨plainId_quiet PySem.F.plain_sum_loop _, sum_step W (s.heap.push { cls := .type "list_iterator", data := .fields #[.ref l, .int 0 0] }).objs.size a b its na nb 0 _ ?_ ?_ ?_ ?_ ?_ ?_ ?_ ?_ ?_ ?_ ?_ ?_ hz fun h' tk p hk hp hg => ?_⟩
  · intro z
    rcases List.mem_cons.mp z with z | z
    · have z : @Eq Nat _ _ := z; omega
    · rw [List.mem_singleton] at z; have z : @Eq Nat _ _ := z; omega
  · show (Heap.push _ _).objs.size ≤ _
    rw [Heap.size_push]
    exact Nat.le_refl _
  · intro q hq
    show @LT.lt Nat instLTNat q (Heap.push _ _).objs.size
    rw [Heap.size_push, hs2]
    rcases List.mem_cons.mp hq with z | z
    · have z : @Eq Nat _ _ := z; omega
    · rw [List.mem_singleton] at z; have z : @Eq Nat _ _ := z; omega
  · intro v hv
    cases hv
    rfl
  · exact ⟨i0.at fun o e => push3 _ _ e, hl2.at fun o e => push3 _ _ e⟩
  · exact Heap.get?_push_size _ rfl
  · exact push3 _ _ ha2
  · exact push3 _ _ hb2
  · intro z; rw [List.mem_singleton] at z; have z : @Eq Nat _ _ := z; omega
  · intro z; rw [List.mem_singleton] at z; have z : @Eq Nat _ _ := z; omega
  · intro z; have z : @Eq Nat _ _ := z; omega
  · intro z; have z : @Eq Nat _ _ := z; omega
  · refine h h' tk p (fun q o e => hk q o (fun z => ?_) ?_ (push3 _ _ (Heap.get?_push_of_some _ e))) ?_ hg
    · rw [List.mem_singleton] at z
      have z : @Eq Nat _ _ := z
      have : @LT.lt Nat instLTNat q s.heap.objs.size := Heap.lt_size e
      omega
    · intro z
      have z : @Eq Nat _ _ := z
      have : @LT.lt Nat instLTNat q s.heap.objs.size := Heap.lt_size e
      omega
    · have hp' : @LE.le Nat instLENat (Heap.push _ _).objs.size p := hp
      rw [Heap.size_push, hs2] at hp'
      omega
end
end PU
namespace PU
open PySem PySem.Spec PyProof.Rows L2 StX MM
theorem call_sum1 {X : Cx} (hc : X.calm = true) : CallR X (.builtin "sum") (fun xs H Q => ∃ (l a b : Addr) (vs : List V), xs = [V.ref l, V.ref b] ∧ H l = some (.lst [.ref a]) ∧ H a = some (.lst vs) ∧ H b = some (.lst []) ∧ ∀ p, H p = none → Q (.ref p) (upd H p (.lst vs))) := by
  intro pins s σ H xs us Q I r h
  obtain ⟨l, a, b, vs, rfl, hl, ha, hb, q⟩ := h
  cases r with
  | cons r1 t =>
    cases t with
    | cons r2 t =>
      cases t
      cases r1
      cases r2
      obtain ⟨z, its, n, rv, il, e⟩ := I.lstM hl
      obtain ⟨z2, its2, n2, rv2, il2, e2⟩ := I.lstM ha
      obtain ⟨z3, its3, n3, rv3, il3, e3⟩ := I.lstM hb
      cases rv3
      cases rv with
      | cons ra rt =>
        cases rt
        cases ra
        refine sum_one (I.ok.hd hc) ⟨_, e, rfl, n, rfl⟩ e2 e3 (by rw [List.size_toArray, ← rv2.length]; exact z2) fun h' tk p hkeep hp hg => ?_
        exact ⟨.ref p, _, I.laid (t' := tk) hkeep hp (show ObjOk X.prog X.w _ h' _ (.lst vs) from ⟨z2, its2, _, rv2, hg⟩), rfl, q _ (I.hok.fresh hp)⟩
section
variable {X : Cx} {ds : List PyData}
theorem cr_sum1 (hc : X.calm = true := by rfl) : CalR X (.builtin "sum") [.list [.list ds], .list []] (.fresh ds) := ⟨_, call_sum1 hc, fun S H vs Q hh h q => by
  cases h with
  | cons h1 t =>
    cases t with
    | cons h2 t =>
      cases t
      cases h1 with
      | lst k1 k2 =>
        cases h2 with
        | lst m1 m2 =>
          cases m2
          cases k2 with
          | cons k3 k4 =>
            cases k4
            cases k3 with
            | @lst a vs _ j1 j2 =>
              refine ⟨_, a, _, vs, rfl, hide_le _ _ k1, hide_le _ _ j1, hide_le _ _ m1, fun p hp => ?_⟩
              have nn := same_new hp
              exact q _ _ (nn _) ⟨p, vs, rfl, hp, upd_same, RepAll.m (hide_free hp (nn _)) j2⟩⟩
end
end PU
namespace PU
open PySem PySem.Spec PyProof.Rows L2 StX MM
theorem OkS.freeze {K : PySem.W.Frag} {p : Addr} {S : Addr → Prop} {H0 H : Hp} {σ : L2.St} {δ : SEnv} {A : Nat → Addr} (ok : OkS K p S H0 H σ δ A) {i : Nat} {ds : List PyData} (hi : δ[i]? = some (.own ds)) : OkS K p S H0 H σ (δ.set i (.dat (.list ds))) A := by
  have sub : ∀ a, owned (δ.set i (.dat (.list ds))) A a → owned δ A a := fun a ⟨k, es, h1, h2⟩ => by
    rcases set_get h1 with ⟨_, _, e⟩ | ⟨_, e⟩
    · cases e
    · exact ⟨k, es, e, h2⟩
  have anti : Same (hide (fun a => S a ∨ owned δ A a) H) (hide (fun a => S a ∨ owned (δ.set i (.dat (.list ds))) A a) H) := hide_anti fun a z => z.elim .inl fun z => .inr (sub a z)
  refine { len := by rw [List.length_set]; exact ok.len, base := ok.base, hid := ok.hid, dat := fun j d hj => ?_, own := fun j es hj => ?_, inj := fun j k es fs h1 h2 e => ?_, pur := fun j hj => ?_ }
  · rcases set_get hj with ⟨e, _, e2⟩ | ⟨_, e⟩
    · cases e2
      subst e
      obtain ⟨h1, h2, h3, vs, h4, h5⟩ := ok.own i ds hi
      refine ⟨_, h1, .lst (xs := vs) ?_ (h5.m anti)⟩
      rw [hide_get]
      · exact h4
      · rintro (z | ⟨k, es, k1, k2⟩)
        · exact h3 z
        · rcases set_get k1 with ⟨_, _, e⟩ | ⟨ne, e⟩
          · cases e
          · exact ne (ok.inj i k ds es hi e k2)
    · obtain ⟨v, h1, h2⟩ := ok.dat j d e
      exact ⟨v, h1, h2.m anti⟩
  · rcases set_get hj with ⟨_, _, e⟩ | ⟨_, e⟩
    · cases e
    · obtain ⟨h1, h2, h3, vs, h4, h5⟩ := ok.own j es e
      exact ⟨h1, h2, h3, vs, h4, h5.m anti⟩
  · rcases set_get h1 with ⟨_, _, e1⟩ | ⟨_, e1⟩
    · cases e1
    · rcases set_get h2 with ⟨_, _, e2⟩ | ⟨_, e2⟩
      · cases e2
      · exact ok.inj j k es fs e1 e2 e
  · rcases set_get hj with ⟨_, _, e⟩ | ⟨_, e⟩
    · cases e
    · exact ok.pur j e
/-- an own list is data from here on -/
theorem ew_freeze {X : Cx} {sts : List Stmt} {δ : SEnv} {n : Bud} {N : SEnv → Bud → Prop} {R : Res → Bud → Prop} {ds : List PyData} (i : Nat) (hi : δ[i]? = some (.own ds)) (h : EW X sts (δ.set i (.dat (.list ds))) n N R) : EW X sts δ n N R := fun p S H0 D σ H A ok pu hn hr => h p S H0 D σ H A (ok.freeze hi) pu hn hr
end PU
namespace PU
open PySem PySem.Spec PyProof.Rows L2 StX MM

theorem lk_okm {p : Str} (hp : okw p = true) {l : List Lt} (h : ∀ x ∈ l, okw x.1 = true) : ∀ k ∈ l.map (fun x => lk x p), k.ok = true := fun k hk => by
  obtain ⟨x, hx, rfl⟩ := List.mem_map.mp hk
  exact lk_ok (h x hx) hp
theorem embK_lk (l : List Lt) (p : Str) : (l.map fun x => emb (lk x p)) = embK (l.map fun x => lk x p) := by unfold embK; rw [List.map_map] <;> rfl
theorem form_map (x : Lt) (t : List Lt) (p : Str) (m : Nat) (z : Kd) (h : (t.map fun x => lk x p)[m]? = some z) : form (x :: t.take (m + 1)) p = .th (form (x :: t.take m) p) z := by
  rw [List.getElem?_map] at h
  cases q : t[m]? with
  | none => rw [q] at h; cases h
  | some y =>
    rw [q] at h
    cases h
    rw [take_snoc q, show x :: (t.take m ++ [y]) = (x :: t.take m) ++ [y] from rfl, form_snoc _ _ _ (by simp)]

section
variable {P : Program} {w : World} {K : PySem.W.Frag} {mg : Str → Option Value} {base : Heap} {f : Addr} {fd : FuncData}

/-! ### _law_letters -/
abbrev st_law_letters : Stmt := top 73
theorem sc_law_letters : FnScope ["_law_row", "_law_kind_here"] ["_law_row"] (defScope st_law_letters) := ⟨rfl, rfl, rfl, by decide +kernel, rfl, by decide +kernel, by decide +kernel⟩
def r_law_letters : List PyData → Res → Prop := fun ds r => ∃ k : Kd, ds = [.list [emb k]] ∧ k.ok = true ∧ k.dep ≤ 40 ∧ k.sg ≤ 900 ∧ r = .dat (.list (embL (lets k)))
theorem ok_law_letters (G : Mg K mg) (C_law_uncancelled : Cal P w K mg base 41 "_law_uncancelled" ["_law_kind_here"] (spR K (r_law_uncancelled 40))) (C_law_cancelled : Cal P w K mg base 1 "_law_cancelled" ["_law_letters_here"] (spR K r_law_cancelled)) (F : Fun K "_law_letters" "_law_letters" st_law_letters f fd) : FnOk P w K mg base CX0 42 f fd ["_law_row"] (spR K r_law_letters) := by
  refine Fun.okR F sc_law_letters r_law_letters (by rintro _ _ ⟨_, rfl, _⟩; rfl) fun cdv A outer s H E hr ds r h => ?_
  have nd := sc_law_letters.nd
  obtain ⟨k, rfl, hk, hd, hs, rfl⟩ := h
  exact ew_one (es_ret (eg_call C_law_cancelled (hr.mono (by omega)) (ea_cons (EG.ev (eg_callB (cr_sum1 (ds := embL (unc k))) (ea_cons (EG.ev (el_lcT (l := [k]) (g := emb) (f := fun k => .list (embL (unc k))) 1 nd (ei_list (ev_var 0 rfl)) (show blkC ["_law_row", "_law_kind_here"] (defScope st_law_letters) _ _ = true by decide +kernel) (fun y hy => fun _ _ _ _ _ => EG.ev (eg_call C_law_uncancelled (hr.mono (by omega)) (ea_cons (ev_var 1 rfl) ea_nil) ⟨y, rfl, by rw [List.mem_singleton] at hy; subst hy; exact ⟨hd, by omega, rfl⟩⟩)) (small_len rfl))) (ea_cons (EG.ev (el_lst ea_nil (small_len rfl))) ea_nil)) G.sum (by decide +kernel))) ea_nil) ⟨unc k, rfl, unc_ok hk, by rw [unc_len]; omega, rfl⟩) rfl)
/-! ### _law_is_place -/
abbrev st_law_is_place : Stmt := top 74
theorem sc_law_is_place : FnScope ["_law_value", "_law_many"] ["_law_value", "_law_many"] (defScope st_law_is_place) := ⟨rfl, rfl, rfl, by decide +kernel, rfl, by decide +kernel, by decide +kernel⟩
def r_law_is_place : List PyData → Res → Prop := fun ds r => ∃ m : Int, ds = [.int 0, .int m] ∧ 0 < m ∧ r = .dat (.bool true)
theorem ok_law_is_place (G : Mg K mg)  (F : Fun K "_law_is_place" "_law_is_place" st_law_is_place f fd) : FnOk P w K mg base CX0 1 f fd ["_law_value", "_law_many"] (spR K r_law_is_place) := by
  refine Fun.okR F sc_law_is_place r_law_is_place (by rintro _ _ ⟨_, rfl, _⟩; rfl) fun cdv A outer s H E hr ds r h => ?_
  have nd := sc_law_is_place.nd
  obtain ⟨m, rfl, hm, rfl⟩ := h
  exact (ew_one (es_ret (ev_andT (G.isi .int rfl rfl rfl (ev_var 0 rfl)) (ev_andT (ev_not (G.isi .bool rfl rfl rfl (ev_var 0 rfl))) (ev_one (ev_chain (CmpR.to cm_le rfl) (CmpR.to cm_lt (decide_eq_true hm)) ev_int (ev_var 0 rfl) (ev_var 1 rfl))))) rfl))
/-! ### _law_is_kind -/
abbrev st_law_is_kind : Stmt := top 75
theorem sc_law_is_kind : FnScope ["_law_value", "_law_letter"] ["_law_value"] (defScope st_law_is_kind) := ⟨rfl, rfl, rfl, by decide +kernel, rfl, by decide +kernel, by decide +kernel⟩
def r_law_is_kind (n : Nat) : List PyData → Res → Prop := fun ds r => ∃ k : Kd, ds = [emb k] ∧ k.ok = true ∧ k.dep ≤ n ∧ r = .dat (.bool true)
theorem ok_law_is_kind (G : Mg K mg) (F : Fun K "_law_is_kind" "_law_is_kind" st_law_is_kind f fd) (bF : Binds K fd ["_law_value"] []) (mF : mg "_law_is_kind" = some (.ref f)) :
    ∀ n : Nat, n ≤ 40 → FnOk P w K mg base CX0 (n + 1) f fd ["_law_value"] (spR K (r_law_is_kind n)) := by
  have key : ∀ n : Nat, n ≤ 40 → (∀ m, n = m + 1 → Cal P w K mg base n "_law_is_kind" ["_law_value"] (spR K (r_law_is_kind m))) → FnOk P w K mg base CX0 (n + 1) f fd ["_law_value"] (spR K (r_law_is_kind n)) := by
    intro n h10 ih
    refine Fun.okR F sc_law_is_kind (r_law_is_kind n) (by rintro _ _ ⟨_, rfl, _⟩; rfl) fun cdv A outer s H E hr ds r h => ?_
    have nd := sc_law_is_kind.nd
    obtain ⟨k, rfl, hk, hd, rfl⟩ := h
    cases k with
    | pl w =>
      obtain ⟨h1, h2, h3⟩ := okw_len (show okw w = true from hk)
      exact (ew_cons (es_ifT (et_val (G.isi .str rfl rfl rfl (ev_var 0 rfl))) (ew_one (es_ret (ev_andT (ev_chain (CmpR.to cm_lt (decide_eq_true (by omega))) (CmpR.to cm_lt (decide_eq_true (by omega))) ev_int (eg_callB (cr_lenS (le_line (by omega))) (ea_cons (ev_var 0 rfl) ea_nil) G.len boot_len) ev_int) (ev_one (eg_callB (cr_allT fun d hd => by obtain ⟨_, _, rfl⟩ := List.mem_map.mp hd; rfl) (ea_cons (el_lc 1 (f := fun _ => .bool true) nd (ei_str (ev_var 0 rfl)) (show blkC ["_law_value", "_law_letter"] (defScope st_law_is_kind) _ _ = true by decide +kernel) (fun d hd => by obtain ⟨c, hc, rfl⟩ := List.mem_map.mp hd; exact fun _ _ _ _ _ => (ev_cmp (CmpR.to cm_inS (decide_eq_true (by rw [abc_eq]; exact h3 c hc))) (ev_var 1 rfl) ev_str)) (le_line (by rw [signs_len]; omega))).ev ea_nil) G.all rfl))) rfl))))
    | ov a b =>
      cases n with
      | zero => exact absurd hd (Nat.not_succ_le_zero _)
      | succ m =>
        have C_law_is_kind := ih m rfl
        have ha := (ok2 hk).1
        have hb := (ok2 hk).2
        have hd' : max a.dep b.dep + 1 ≤ m + 1 := hd
        exact (ew_cons (es_ifF (et_val (G.isi .str rfl rfl rfl (ev_var 0 rfl))) (ew_nil 
  (ew_cons (es_ifF (et_bw (eb_orF (et_not (et_val (G.isi .tuple rfl rfl rfl (ev_var 0 rfl)))) (eb_orF (et_cmp (CmpR.to cm_neI rfl) (eg_callB (cr_len rfl) (ea_cons (ev_var 0 rfl) ea_nil) G.len boot_len) ev_int) (eb_or1 (et_not (et_val (G.isi .str rfl rfl rfl (ev_ix (ev_var 0 rfl) ev_int rfl)))))))) (ew_nil 
  (ew_one (es_ret (ev_andT (ev_cmp (CmpR.to (cm_inT (l := ["over", "under", "then"])) (by decide +kernel)) (ev_ix (ev_var 0 rfl) ev_int rfl) (ev_tup (ea_cons ev_str (ea_cons ev_str (ea_cons ev_str ea_nil))))) (ev_andT (eg_call C_law_is_kind (hr.mono (by omega)) (ea_cons (ev_ix (ev_var 0 rfl) ev_int rfl) ea_nil) ⟨a, rfl, ha, by omega, rfl⟩) (ev_one (eg_call C_law_is_kind (hr.mono (by omega)) (ea_cons (ev_ix (ev_var 0 rfl) ev_int rfl) ea_nil) ⟨b, rfl, hb, by omega, rfl⟩)))) rfl))))))))
    | un a b =>
      cases n with
      | zero => exact absurd hd (Nat.not_succ_le_zero _)
      | succ m =>
        have C_law_is_kind := ih m rfl
        have ha := (ok2 hk).1
        have hb := (ok2 hk).2
        have hd' : max a.dep b.dep + 1 ≤ m + 1 := hd
        exact (ew_cons (es_ifF (et_val (G.isi .str rfl rfl rfl (ev_var 0 rfl))) (ew_nil 
  (ew_cons (es_ifF (et_bw (eb_orF (et_not (et_val (G.isi .tuple rfl rfl rfl (ev_var 0 rfl)))) (eb_orF (et_cmp (CmpR.to cm_neI rfl) (eg_callB (cr_len rfl) (ea_cons (ev_var 0 rfl) ea_nil) G.len boot_len) ev_int) (eb_or1 (et_not (et_val (G.isi .str rfl rfl rfl (ev_ix (ev_var 0 rfl) ev_int rfl)))))))) (ew_nil 
  (ew_one (es_ret (ev_andT (ev_cmp (CmpR.to (cm_inT (l := ["over", "under", "then"])) (by decide +kernel)) (ev_ix (ev_var 0 rfl) ev_int rfl) (ev_tup (ea_cons ev_str (ea_cons ev_str (ea_cons ev_str ea_nil))))) (ev_andT (eg_call C_law_is_kind (hr.mono (by omega)) (ea_cons (ev_ix (ev_var 0 rfl) ev_int rfl) ea_nil) ⟨a, rfl, ha, by omega, rfl⟩) (ev_one (eg_call C_law_is_kind (hr.mono (by omega)) (ea_cons (ev_ix (ev_var 0 rfl) ev_int rfl) ea_nil) ⟨b, rfl, hb, by omega, rfl⟩)))) rfl))))))))
    | th a b =>
      cases n with
      | zero => exact absurd hd (Nat.not_succ_le_zero _)
      | succ m =>
        have C_law_is_kind := ih m rfl
        have ha := (ok2 hk).1
        have hb := (ok2 hk).2
        have hd' : max a.dep b.dep + 1 ≤ m + 1 := hd
        exact (ew_cons (es_ifF (et_val (G.isi .str rfl rfl rfl (ev_var 0 rfl))) (ew_nil 
  (ew_cons (es_ifF (et_bw (eb_orF (et_not (et_val (G.isi .tuple rfl rfl rfl (ev_var 0 rfl)))) (eb_orF (et_cmp (CmpR.to cm_neI rfl) (eg_callB (cr_len rfl) (ea_cons (ev_var 0 rfl) ea_nil) G.len boot_len) ev_int) (eb_or1 (et_not (et_val (G.isi .str rfl rfl rfl (ev_ix (ev_var 0 rfl) ev_int rfl)))))))) (ew_nil 
  (ew_one (es_ret (ev_andT (ev_cmp (CmpR.to (cm_inT (l := ["over", "under", "then"])) (by decide +kernel)) (ev_ix (ev_var 0 rfl) ev_int rfl) (ev_tup (ea_cons ev_str (ea_cons ev_str (ea_cons ev_str ea_nil))))) (ev_andT (eg_call C_law_is_kind (hr.mono (by omega)) (ea_cons (ev_ix (ev_var 0 rfl) ev_int rfl) ea_nil) ⟨a, rfl, ha, by omega, rfl⟩) (ev_one (eg_call C_law_is_kind (hr.mono (by omega)) (ea_cons (ev_ix (ev_var 0 rfl) ev_int rfl) ea_nil) ⟨b, rfl, hb, by omega, rfl⟩)))) rfl))))))))
  intro n
  induction n with
  | zero => exact fun h => key 0 h fun m e => by cases e
  | succ n ih => exact fun h => key (n + 1) h fun m e => by cases e; exact cal_of mF F.kp bF (ih (by omega))
/-! ### _law_form -/
abbrev st_law_form : Stmt := top 87
theorem sc_law_form : FnScope ["_law_letters_here", "_law_plain", "_law_parts", "_law_word_here", "_law_sign", "_law_found", "_law_part"] ["_law_letters_here", "_law_plain"] (defScope st_law_form) := ⟨rfl, rfl, rfl, by decide +kernel, rfl, by decide +kernel, by decide +kernel⟩
def r_law_form : List PyData → Res → Prop := fun ds r => ∃ (l : List Lt) (p : Str), ds = [.list (embL l), .str p] ∧ (∀ x ∈ l, okw x.1 = true) ∧ okw p = true ∧ l.length ≤ 1000 ∧ r = .dat (emb (form l p))
theorem ok_law_form (G : Mg K mg)  (F : Fun K "_law_form" "_law_form" st_law_form f fd) : FnOk P w K mg base CX0 1 f fd ["_law_letters_here", "_law_plain"] (spR K r_law_form) := by
  refine Fun.okR F sc_law_form r_law_form (by rintro _ _ ⟨_, _, rfl, _⟩; rfl) fun cdv A outer s H E hr ds r h => ?_
  have nd := sc_law_form.nd
  obtain ⟨l, p, rfl, hl, hp, hlen, rfl⟩ := h
  refine ew_cons (es_setLcT2 2 3 4 (l := l) (g1 := fun s => .str s.1) (g2 := fun s => .int (sgn s.2)) (f := fun s => emb (lk s p)) nd (ei_list (ev_var 0 rfl)) (show blkC ["_law_letters_here", "_law_plain", "_law_parts", "_law_word_here", "_law_sign", "_law_found", "_law_part"] (defScope st_law_form) _ _ = true by decide +kernel) (fun z hz => ?_) (le_line (by omega)) (fun _ _ _ _ _ => pg_tup rfl (pgs_cons (pg_name nd rfl (Or.inl rfl)) (pgs_cons (pg_name nd rfl (Or.inl rfl)) pgs_nil))) ?_ (.inr (by rw [embK_lk]; exact nl_embK _)))
  · obtain ⟨z, sg⟩ := z
    cases sg with
    | true => exact fun _ _ _ _ _ => eg_ifT (et_cmp (CmpR.to cm_eqI rfl) (ev_var 4 rfl) ev_int) (ev_var 3 rfl)
    | false => exact fun _ _ _ _ _ => eg_ifF (et_cmp (CmpR.to cm_eqI rfl) (ev_var 4 rfl) ev_int) (EV.to (ev_tup (ea_cons ev_str (ea_cons (ev_tup (ea_cons ev_str (ea_cons (ev_var 1 rfl) (ea_cons (ev_var 1 rfl) ea_nil)))) (ea_cons (ev_var 3 rfl) ea_nil)))) rfl)
  rw [embK_lk]
  refine EW.nrm [_, _, _, _, _, _, _] rfl (ew_freeze 2 rfl (EW.nrm [_, _, _, _, _, _, _] rfl ?_))
  have hlay := layAll_embK (lk_okm hp hl)
  cases l with
  | nil =>
    refine ew_cons (es_set 5 (r := .dat (emb (form [] p))) (eg_ifT (et_cmp (CmpR.to (cm_eqNil hr.units hlay) rfl) (ev_var 2 rfl) (EG.ev (el_lst ea_nil (small_len rfl)))) (EV.to (ev_tup (ea_cons ev_str (ea_cons (ev_var 1 rfl) (ea_cons (ev_var 1 rfl) ea_nil)))) rfl)) (EW.nrm [_, _, _, _, _, _, _] rfl (ew_cons ?_)) (safe := .inr (nl_emb _)) (nd := nd))
    refine es_for (ds := []) 6 (fun m δ' n' => δ' = [.dat (.list (embL [])), .dat (.str p), .dat (.list (embK ([].map fun x => lk x p))), .unk, .unk, .dat (emb (form [] p)), .unk] ∧ n' = .none) (ei_list (EG.ev (el_slice (ev_var 2 rfl) (eo_some ev_int) eo_none (show cutD ([] : List PyData) (some 1) none = [] from cut_from [] 1)))) ⟨rfl, rfl⟩ (fun m d δ' n' hdm hI => by cases hdm) (fun δ' n' hI => ?_) nd
    obtain ⟨rfl, rfl⟩ := hI
    exact ew_one (es_ret (ev_var 5 rfl) rfl)
  | cons x t =>
    refine ew_cons (es_set 5 (r := .dat (emb (form [x] p))) (eg_ifF (et_cmp (CmpR.to (cm_eqNil hr.units hlay) rfl) (ev_var 2 rfl) (EG.ev (el_lst ea_nil (small_len rfl)))) (ev_ix (ev_var 2 rfl) ev_int (by exact at_zero _ _))) (EW.nrm [_, _, _, _, _, _, _] rfl (ew_cons ?_)) (safe := .inr (nl_emb _)) (nd := nd))
    have hcut : cutD (embK (List.map (fun x => lk x p) (x :: t))) (some 1) none = embK (t.map fun x => lk x p) := cut_tail _ _
    refine es_for (ds := embK (t.map fun x => lk x p)) 6 (fun m δ' n' => ∃ y : Slot, δ' = [.dat (.list (embL (x :: t))), .dat (.str p), .dat (.list (embK ((x :: t).map fun x => lk x p))), .unk, .unk, .dat (emb (form (x :: t.take m) p)), y] ∧ n' = .none ∧ no1 y) (ei_list (EG.ev (el_slice (ev_var 2 rfl) (eo_some ev_int) eo_none hcut))) ⟨.unk, rfl, rfl, rfl⟩ (fun m d δ' n' hdm hI => ?_) (fun δ' n' hI => ?_) nd
    · obtain ⟨y, rfl, rfl, hy⟩ := hI
      obtain ⟨z, hz, hzm, rfl⟩ := map_get hdm
      refine ⟨.inr (nl_emb z), EW.nrm [_, _, _, _, _, _, _] rfl (ew_one (es_set 5 (EV.to (d' := emb (.th (form (x :: t.take m) p) z)) (ev_tup (ea_cons ev_str (ea_cons (ev_var 5 rfl) (ea_cons (ev_var 6 rfl) ea_nil)))) rfl) ?_ (safe := .inr (nl_emb _)) (nd := nd)))⟩
      exact ⟨.dat (emb z), by rw [form_map x t p m z hz] <;> rfl, rfl, rfl⟩
    · obtain ⟨y, rfl, rfl, hy⟩ := hI
      rw [embK_len, List.length_map, List.take_length]
      exact ew_one (es_ret (ev_var 5 rfl) rfl)
end
end PU
namespace PU
open PySem PySem.Spec PyProof.Rows L2 StX MM
section
variable {X : Cx} {δ : SEnv} {n : Bud} {N : SEnv → Bud → Prop} {R : Res → Bud → Prop} {e a b c : Expr} {pos : Pos}
/-- x, y, z, u = e, four things -/
theorem es_unp4 {x y z u : Str} {px py pz pu0 pt : Pos} {kt : Nat} (i j l m : Nat) {d1 d2 d3 d4 : PyData} (he : EV X e (flat δ) (.tuple [d1, d2, d3, d4])) (hN : N ((((δ.set i (.dat d1)).set j (.dat d2)).set l (.dat d3)).set m (.dat d4)) n) (safe : ownFree δ = true := by rfl) (nd : X.N.Nodup := by assumption)
    (hi : X.N[i]? = some x := by rfl) (hj : X.N[j]? = some y := by rfl) (hl : X.N[l]? = some z := by rfl) (hm : X.N[m]? = some u := by rfl) (hx : Loc X.env.scope x := by first | exact Or.inl rfl | exact Or.inr rfl) (hy : Loc X.env.scope y := by first | exact Or.inl rfl | exact Or.inr rfl) (hz : Loc X.env.scope z := by first | exact Or.inl rfl | exact Or.inr rfl) (hu : Loc X.env.scope u := by first | exact Or.inl rfl | exact Or.inr rfl)
    (hfx : X.fn x = true ∨ X.env.scope.names.lookup x = some .local := by first | exact .inl rfl | exact .inr rfl) (hfy : X.fn y = true ∨ X.env.scope.names.lookup y = some .local := by first | exact .inl rfl | exact .inr rfl) (hfz : X.fn z = true ∨ X.env.scope.names.lookup z = some .local := by first | exact .inl rfl | exact .inr rfl) (hfu : X.fn u = true ∨ X.env.scope.names.lookup u = some .local := by first | exact .inl rfl | exact .inr rfl)
    (hc : X.calm = true := by rfl) (hs : swapsWithSole [.Tuple [.Name x px, .Name y py, .Name z pz, .Name u pu0] kt pt] e pos.line X.env = pure false := by rfl) (hw : swappedStores [.Tuple [.Name x px, .Name y py, .Name z pz, .Name u pu0] kt pt] e X.env = pure none := by rfl) :
    ES X (.Assign [.Tuple [.Name x px, .Name y py, .Name z pz, .Name u pu0] kt pt] e pos) δ n N R := fun p S H0 D σ H A ok pu hn hr => by
  refine sS_of (ps_asg pe_s (pg_tup hc (pgs_cons (pg_name nd hi hx hfx) (pgs_cons (pg_name nd hj hy hfy) (pgs_cons (pg_name nd hl hz hfz) (pgs_cons (pg_name nd hm hu hfu) pgs_nil))))) hs hw) ?_
  refine he S σ H _ ok.ok fun v H1 s1 g1 => ?_
  cases (show Rep X.K (hide S H1) v (.tuple [d1, d2, d3, d4]) from g1) with
  | tup h1 h2 =>
    cases h2 with
    | cons q1 h2 =>
      cases h2 with
      | cons q2 h2 =>
        cases h2 with
        | cons q3 h2 =>
          cases h2 with
          | cons q4 h2 =>
            cases h2
            refine ⟨_, _, rfl, same_sqt hide_le h1, rfl, _, _, rfl, _, _, rfl, _, _, rfl, _, _, rfl, rfl, ?_⟩
            obtain ⟨A1, ok1⟩ := (ok.m s1).put2 (r1 := .dat d1) (r2 := .dat d2) (Same.refl _) (Same.refl _) q1 q2 (i := i) (j := j) (safe2_dat safe)
            obtain ⟨A2, ok2⟩ := ok1.put (r := .dat d3) (Same.refl _) q3 (i := l) (.inl (nob (ownFree_set (ownFree_set safe))))
            obtain ⟨A3, ok3⟩ := ok2.put (r := .dat d4) (Same.refl _) q4 (i := m) (.inl (nob (ownFree_set (ownFree_set (ownFree_set safe)))))
            exact hn _ n _ H1 A3 hN ok3 (pu.m s1)
/-- x, y = e, a list of two -/
theorem es_unp2L {x y : Str} {px py pt : Pos} {kt : Nat} (i j : Nat) {d1 d2 : PyData} (he : EV X e (flat δ) (.list [d1, d2])) (hN : N ((δ.set i (.dat d1)).set j (.dat d2)) n) (safe : Safe2 δ (.dat d1) (.dat d2) := by first | exact safe2_dat rfl | exact Or.inr ⟨rfl, rfl⟩ | assumption) (nd : X.N.Nodup := by assumption)
    (hi : X.N[i]? = some x := by rfl) (hj : X.N[j]? = some y := by rfl) (hx : Loc X.env.scope x := by first | exact Or.inl rfl | exact Or.inr rfl) (hy : Loc X.env.scope y := by first | exact Or.inl rfl | exact Or.inr rfl)
    (hfx : X.fn x = true ∨ X.env.scope.names.lookup x = some .local := by first | exact .inl rfl | exact .inr rfl) (hfy : X.fn y = true ∨ X.env.scope.names.lookup y = some .local := by first | exact .inl rfl | exact .inr rfl)
    (hc : X.calm = true := by rfl) (hs : swapsWithSole [.Tuple [.Name x px, .Name y py] kt pt] e pos.line X.env = pure false := by rfl) (hw : swappedStores [.Tuple [.Name x px, .Name y py] kt pt] e X.env = pure none := by rfl) :
    ES X (.Assign [.Tuple [.Name x px, .Name y py] kt pt] e pos) δ n N R := fun p S H0 D σ H A ok pu hn hr => by
  refine sS_of (ps_asg pe_s (pg_lst hc (pgs_cons (pg_name nd hi hx hfx) (pgs_cons (pg_name nd hj hy hfy) pgs_nil))) hs hw) ?_
  refine he S σ H _ ok.ok fun v H1 s1 g1 => ?_
  cases (show Rep X.K (hide S H1) v (.list [d1, d2]) from g1) with
  | lst h1 h2 =>
    cases h2 with
    | cons q1 h2 =>
      cases h2 with
      | cons q2 h2 =>
        cases h2
        refine ⟨_, _, rfl, SqL.of (hide_some h1).2, rfl, _, _, rfl, _, _, rfl, rfl, ?_⟩
        obtain ⟨A1, ok1⟩ := (ok.m s1).put2 (r1 := .dat d1) (r2 := .dat d2) (Same.refl _) (Same.refl _) q1 q2 (i := i) (j := j) safe
        exact hn _ n _ H1 A1 hN ok1 (pu.m s1)
end
end PU
namespace PU
open PySem PySem.Spec PyProof.Rows L2 StX MM
/-! ## deep recursion: room counted call by call, one frame each -/
/-- room for r more calls, and 41 levels of the layer's own count behind them -/
structure RoomF (r : Nat) (A : Around) : Prop where
  hd : A.handled = none
  dp : A.depth + r + 130 < recursionLimit
  un : A.units + 3 * r + 900 < cLine
namespace RoomF
variable {r r' : Nat} {A : Around}
theorem mono (h : RoomF r A) (e : r' ≤ r) : RoomF r' A := ⟨h.hd, by have := h.dp; omega, by have := h.un; omega⟩
theorem deeper (h : RoomF (r + 1) A) (env : Env) : RoomF r (A.deeper env) := ⟨h.hd, by have := h.dp; show A.depth + 1 + r + 130 < _; omega, by have := h.un; show A.units + 3 + 3 * r + 900 < _; omega⟩
theorem room (h : RoomF r A) : Room 41 A := ⟨h.hd, by have := h.dp; omega, by have := h.un; omega⟩
theorem units (h : RoomF r A) : A.units + 64 < cLine := h.room.units
end RoomF
theorem roomF_of {k : Nat} {A : Around} (r : Room k A) {n : Nat} (h1 : n + 130 ≤ 3 * k + 5) (h2 : 3 * n + 900 ≤ 16 * k + 200) : RoomF n A := ⟨r.hd, by have := r.dp; omega, by have := r.un; omega⟩
/-- a def's promise, r calls deep -/
structure FnF (P : Program) (w : World) (K : PySem.W.Frag) (mg : Str → Option Value) (base : Heap) (r : Nat) (f : Addr) (fd : FuncData) (ps : List Str) (sp : Sp) : Prop where
  len : ∀ vs H Q E, sp vs H Q E → vs.length = ps.length
  go : ∀ {A : Around} {o : List Env} {s : Shared} {H : Hp} {args : Args} {us : List Value} {vs : List V} {Q : VK} {E : XK}, RoomF r A → Env0 P w K mg base A o s H → BindsTo s fd args (ps.zip us) → Vals vs us → sp vs H Q E →
    codeAny (model P w) A (.call (.ref f) args) (CR CX0 o P w H s Q E) s
section
variable {P : Program} {w : World} {K : PySem.W.Frag} {mg : Str → Option Value} {base : Heap} {r : Nat} {f : Addr} {fd : FuncData} {ps N : List Str} {sp : Sp} {x qual : Str} {st : Stmt}
theorem FnF.ok (F : FnF P w K mg base r f fd ps sp) {k : Nat} (h1 : r + 130 ≤ 3 * k + 5) (h2 : 3 * r + 900 ≤ 16 * k + 200) : FnOk P w K mg base CX0 k f fd ps sp :=
  ⟨F.len, fun _ _ _ _ _ _ _ _ _ hr e0 hb rv h => F.go (roomF_of hr h1 h2) e0 hb rv h⟩
theorem fnF_by (F : Fun K x qual st f fd) (S : FnScope N ps (defScope st)) (len : ∀ vs H Q E, sp vs H Q E → vs.length = ps.length)
    (body : ∀ (cdv : Value) (A : Around) (o : List Env) (s : Shared) (H : Hp) (vs : List V) (Q : VK) (E : XK), RoomF r (A.deeper (envOfC qual (defScope st) s.heap.objs.size f cdv)) → sp vs H Q E →
      sSs (cxOf CX0 P w K mg base N qual (defScope st) f cdv A o s H E).nox (defBody st) { nx := fun _ H' => Q .non H', rt := Q } (start N vs) H) : FnF P w K mg base (r + 1) f fd ps sp := by
  obtain ⟨oc, od, kV, doc, pm, an, cdv, ct, osl, rfl, lk, code⟩ := F.ex
  refine ⟨len, fun {A o s H args us vs Q E} hr e0 hb rv hsp => ?_⟩
  have inK : K.In s.heap := e0.mod.kin.keeps fun a u g => (e0.bs a u g).1
  have noL : s.heap.NoLimit := e0.mod.nolimit.keeps fun a u g => (e0.bs a u g).1
  have loc : ∀ y ∈ ps.zip us, (defScope st).names.lookup y.1 = some .local ∨ ((defScope st).names.lookup y.1 = some .cell ∧ ((cellsFrom (s.heap.objs.size + 1) (defScope st).names []).lookup y.1).isSome = true) := by
    rintro ⟨n, v⟩ hy
    exact (S.par n (List.of_mem_zip hy).1).imp id fun c => ⟨c, PySem.W.cellsFrom_some _ _ _ (.inl c)⟩
  have dl : A.depth < recursionLimit := by have := hr.dp; omega
  refine codeAny_call_function dl (inK _ _ lk) rfl S.co S.gen rfl (PySem.W.codeRec_of inK code) (hb _ _ _ _ (wpAny_newFunctionEnv_cells S.kind loc fun env he s1 ic => ?_))
  cases he
  refine ⟨noL.keeps ic.toInCall.keep, codeAny_func ?_⟩
  have J := inv_start (CX := CX0) (N := N) (E := E) S hr.hd e0 (len _ _ _ _ hsp) rv ic
  have ht := (pss_s (X := (cxOf CX0 P w K mg base N qual (defScope st) f cdv A o s H E).nox) (sts := defBody st)).nox
  have hq := body cdv A o s H vs Q E (hr.deeper _) hsp
  refine wpAny_mono (ht.run [] s1 (start N vs) H _ J hq) ?_ fun _ _ h => h
  intro fl s' hs
  match fl, hs with
  | .ret u, ⟨v, σ', H', J', rv', q⟩ => exact ⟨v, H', J'.os, J'.bare, J'.base, J'.hok, rv', q⟩
  | .next, ⟨σ', H', J', q⟩ => exact ⟨.non, H', J'.os, J'.bare, J'.base, J'.hok, rfl, q⟩
  | .brk, ⟨_, _, _, q⟩ => exact q.elim
  | .cont, ⟨_, _, _, q⟩ => exact q.elim
theorem Fun.okRF (F : Fun K x qual st f fd) (S : FnScope N ps (defScope st)) (fr : List PyData → Res → Prop) (hl : ∀ ds r, fr ds r → ds.length = ps.length)
    (body : ∀ (cdv : Value) (A : Around) (o : List Env) (s : Shared) (H : Hp) (E : XK), RoomF r (A.deeper (envOfC qual (defScope st) s.heap.objs.size f cdv)) → ∀ ds r', fr ds r' →
      EW (cxOf CX0 P w K mg base N qual (defScope st) f cdv A o s H E).nox (defBody st) (startS N ds) .none (fun _ _ => r' = .dat .none) (fun r'' _ => r'' = r')) : FnF P w K mg base (r + 1) f fd ps (spR K fr) := by
  refine fnF_by F S ?_ ?_
  · rintro vs H Q E ⟨T, ds, r', h1, h2, h3, h4⟩
    rw [h2.length]
    exact hl ds r' h3
  · rintro cdv A o s H vs Q E hr ⟨T, ds, r', h1, h2, h3, h4⟩
    have lv := h2.length
    refine body cdv A o s H E hr ds r' h3 0 T H _ _ H (fun _ => 0) ⟨?_, Same.refl H, h1, fun i d hd => ?_, fun i es he => ?_, fun i j es es' he => ?_, fun i he => ?_⟩ trivial (fun _ _ _ H' _ hN ok' _ => ?_) fun r'' _ v H' hR s1 _ g => ?_
    · simp only [startS, L2.start, List.length_append, List.length_map, List.length_replicate, lv]
      exact Nat.le_refl _
    · obtain ⟨v, q1, q2⟩ := h2.get (startS_dat hd)
      refine ⟨v, start_get q1, q2.m (hide_anti fun a z => z.elim id ?_)⟩
      rintro ⟨j, es, k1, _⟩
      rcases startS_own k1 with ⟨_, e⟩ | e <;> cases e
    · rcases startS_own he with ⟨_, e⟩ | e <;> cases e
    · rcases startS_own he with ⟨_, e⟩ | e <;> cases e
    · rcases startS_own he with ⟨_, e⟩ | e <;> cases e
    · subst hN; exact h4 _ _ ok'.base .non
    · subst hR; exact h4 _ _ s1 g
end
section
variable {P : Program} {w : World} {K : PySem.W.Frag} {mg : Str → Option Value} {base : Heap} {r : Nat} {f : Addr} {fd : FuncData} {ps : List Str} {sp : Sp}
theorem none_leftF (no : ∀ vs H Q E, ¬ sp vs H Q E) : FnF P w K mg base r f fd ps sp := ⟨fun vs H Q E h => absurd h (no vs H Q E), fun _ _ _ _ h => absurd h (no _ _ _ _)⟩
end
/-- a def that may be called, r calls deep -/
structure CalF (P : Program) (w : World) (K : PySem.W.Frag) (mg : Str → Option Value) (base : Heap) (r : Nat) (x : Str) (ps : List Str) (sp : Sp) : Prop where
  ex : ∃ (a : Addr) (fd : FuncData), mg x = some (.ref a) ∧ PySem.W.keepIn K (.ref a) = true ∧ L2.Binds K fd ps [] ∧ FnF P w K mg base r a fd ps sp
section
variable {X : Cx} {δ : PEnv} {e : Expr} {es : List Expr} {pos p : Pos} {ds : List PyData} {n : Nat} {x : Str} {ps : List Str}
theorem calF_of {P : Program} {w : World} {K : PySem.W.Frag} {mg : Str → Option Value} {base : Heap} {r : Nat} {x : Str} {ps : List Str} {sp : Sp} {f : Addr} {fd : FuncData} (hm : mg x = some (.ref f)) (kp : PySem.W.keepIn K (.ref f) = true) (b : L2.Binds K fd ps []) (F : FnF P w K mg base r f fd ps sp) : CalF P w K mg base r x ps sp := ⟨f, fd, hm, kp, b, F⟩
theorem pe_callF {sp : Sp} {f : Addr} {fd : FuncData} {ta : TA} (F : FnF X.prog X.w X.K X.mg X.base n f fd ps sp) (hr : RoomF n X.A) (hg : Gl X x) (hm : X.mg x = some (.ref f)) (hk : PySem.W.keepIn X.K (.ref f) = true) (hb : L2.Binds X.K fd ps []) (ha : PA X (e :: es) ta)
    (hdb : (x == ("__debug__" : Str)) = false) (he : starEach (e :: es) X.env = (false, eval e X.env) :: starEach es X.env) (hpl : (backTo pos (starEach es X.env)).any (·.1) = false) :
    PE X (.Call (.Name x p) (e :: es) [] pos) (fun σ H Q => ta σ H fun vs H1 => sp vs H1 Q L2.E0) := by
  refine ⟨fun pins s σ H Q I h => wpAny_Call_Name_kw (ld_glob I hg hm ?_ hdb)⟩
  refine PySem.W.callWith_K (h₀ := X.base) I.ok.mod.kin hk (thn (ha.run pos pins s σ H _ I h) fun us s1 ⟨vs, H1, I1, rv, q⟩ => ⟨I1.kIn, ?_⟩) he hpl
  have hl : us.length = ps.length := rv.length.symm.trans (F.len _ _ _ _ q)
  have bd := hb s1 us I1.kIn (by rw [List.append_nil]; exact hl)
  rw [List.append_nil] at bd
  refine wpAny_call (codeAny_mono (F.go hr I1.env0 bd rv q) ?_)
  intro r s' hq
  match r, hq with
  | .error e, hq => exact pass0 pins σ H1 s1 e s' I1 hq
  | .ok (.ret u), hq => exact I1.after hq
  | .ok .next, hq => exact hq.elim
  | .ok .brk, hq => exact hq.elim
  | .ok .cont, hq => exact hq.elim
theorem eg_callF {f : List PyData → Res → Prop} {r : Res} (C : CalF X.prog X.w X.K X.mg X.base n x ps (spR X.K f)) (hr : RoomF n X.A) (ha : EA X (e :: es) δ ds) (hf : f ds r) (hg : Gl X x := by rfl)
    (hd : (x == ("__debug__" : Str)) = false := by decide)
    (he : starEach (e :: es) X.env = (false, eval e X.env) :: starEach es X.env := by rfl) (hpl : (backTo pos (starEach es X.env)).any (·.1) = false := by rfl) : EG X (.Call (.Name x p) (e :: es) [] pos) δ r := fun S σ H Q ok q => by
  obtain ⟨a, fd, hm, hk, hb, F⟩ := C.ex
  refine sE_of (pe_callF F hr hg hm hk hb pa_s hd he hpl) (ha S σ H _ ok fun vs H1 s1 g1 => ?_)
  exact ⟨S, ds, r, (ok.m s1).hid, g1, hf, fun v H' s2 g2 => q _ _ (s1.trans s2) (g2.back s1)⟩
end
end PU
namespace PU
open PySem PySem.Spec PyProof.Rows L2 StX MM

def embQ (r : List Kd) (g : Kd) : PyData := .list [.list (embK r), emb g]
theorem embK_cons (k : Kd) (r : List Kd) : embK (k :: r) = emb k :: embK r := rfl
theorem cut_from0 (r : List Kd) : cutD (embK r) none (some 0) = embK [] := cut_zero _
theorem cut_from1 (k : Kd) (r : List Kd) : cutD (embK (k :: r)) (some (0 + 1)) none = embK r := cut_tail _ _

section
variable {P : Program} {w : World} {K : PySem.W.Frag} {mg : Str → Option Value} {base : Heap} {f : Addr} {fd : FuncData}

/-! ### _law_told_made -/
abbrev st_law_told_made : Stmt := top 77
theorem sc_law_told_made : FnScope ["_law_value", "_law_told", "_law_row", "_law_goal"] ["_law_value"] (defScope st_law_told_made) := ⟨rfl, rfl, rfl, by decide +kernel, rfl, by decide +kernel, by decide +kernel⟩
def r_law_tells (n : Nat) : List PyData → Res → Prop := fun ds r => ∃ (d : Dv) (x : List Kd) (g : Kd), ds = [embD d] ∧ Tl 40 n d x g ∧ r = .dat (embQ x g)
def isMade : Dv → Bool
  | .om _ => true
  | .um _ => true
  | _ => false
def isUsed : Dv → Bool
  | .ou _ _ => true
  | .uu _ _ => true
  | .ct _ _ => true
  | _ => false
def r_law_told_made (n : Nat) : List PyData → Res → Prop := fun ds r => ∃ (d : Dv) (x : List Kd) (g : Kd), ds = [embD d] ∧ Tl 40 (n + 1) d x g ∧ isMade d = true ∧ r = .dat (embQ x g)
def r_law_told_used (n : Nat) : List PyData → Res → Prop := fun ds r => ∃ (d : Dv) (x : List Kd) (g : Kd), ds = [embD d] ∧ Tl 40 (n + 1) d x g ∧ isUsed d = true ∧ r = .dat (embQ x g)
theorem ok_law_told_made (G : Mg K mg) (n l : Nat) (C_law_tells : CalF P w K mg base l "_law_tells" ["_law_value"] (spR K (r_law_tells n))) (F : Fun K "_law_told_made" "_law_told_made" st_law_told_made f fd) : FnF P w K mg base (l + 1) f fd ["_law_value"] (spR K (r_law_told_made n)) := by
  refine Fun.okRF F sc_law_told_made (r_law_told_made n) (by rintro _ _ ⟨_, _, _, rfl, _⟩; rfl) fun cdv A outer s H E hr ds r h => ?_
  have nd := sc_law_told_made.nd
  obtain ⟨d, x, g, rfl, h, hm, rfl⟩ := h
  cases h with
  | om h1 h2 h3 =>
    rename_i d A0 B0
    have hx := List.length_pos_iff.mpr h2
    refine ew_cons (es_set 1 (eg_callF C_law_tells (hr.mono (by omega)) (ea_cons (ev_ix (ev_var 0 rfl) ev_int rfl) ea_nil) ⟨_, _, _, rfl, h1, rfl⟩) (EW.nrm [_, _, _, _] rfl ?_) (nd := nd))
    refine ew_cons (es_ifF (et_bw (eb_or (k := false) (k' := false) (et_cmp (CmpR.to cm_isN rfl) (ev_var 1 rfl) ev_non) (fun _ => eb_or1 (et_cmp (CmpR.to cm_lt (decide_eq_false (by rw [embK_len]; rw [List.length_append, List.length_singleton]; omega))) (eg_callB (cr_lenL trivial) (ea_cons (ev_ix (ev_var 1 rfl) ev_int rfl) ea_nil) G.len boot_len) ev_int)))) (ew_nil ?_))
    refine ew_cons (es_unp2L 2 3 (ev_var 1 rfl) (EW.nrm [_, _, _, _] rfl ?_) (safe := .inl ⟨rfl, ⟨_, rfl⟩, ⟨_, rfl⟩⟩) (nd := nd))
    exact ew_one (es_ret (EG.ev (eg_ifT (et_cmp (CmpR.to cm_eqS (show decide (("over made" : Str) = "over made") = true by decide +kernel)) (ev_ix (ev_var 0 rfl) ev_int rfl) ev_str) (el_lst (ea_cons (EG.ev (el_slice (ev_var 2 rfl) eo_none (eo_some (ev_neg ev_int)) (by rw [embK_app]; exact cut_init _ _))) (ea_cons (EV.to (d' := emb (.ov A0 B0)) (ev_tup (ea_cons ev_str (ea_cons (ev_var 3 rfl) (ea_cons (ev_ix (ev_var 2 rfl) (ev_neg ev_int) (ix_last _ _)) ea_nil)))) rfl) ea_nil)) (small_len rfl)))) rfl)
  | um h1 h2 h3 =>
    rename_i d A0 B0
    have hx := List.length_pos_iff.mpr h2
    refine ew_cons (es_set 1 (eg_callF C_law_tells (hr.mono (by omega)) (ea_cons (ev_ix (ev_var 0 rfl) ev_int rfl) ea_nil) ⟨_, _, _, rfl, h1, rfl⟩) (EW.nrm [_, _, _, _] rfl ?_) (nd := nd))
    refine ew_cons (es_ifF (et_bw (eb_or (k := false) (k' := false) (et_cmp (CmpR.to cm_isN rfl) (ev_var 1 rfl) ev_non) (fun _ => eb_or1 (et_cmp (CmpR.to cm_lt (decide_eq_false (by rw [embK_len]; rw [List.length_cons]; omega))) (eg_callB (cr_lenL trivial) (ea_cons (ev_ix (ev_var 1 rfl) ev_int rfl) ea_nil) G.len boot_len) ev_int)))) (ew_nil ?_))
    refine ew_cons (es_unp2L 2 3 (ev_var 1 rfl) (EW.nrm [_, _, _, _] rfl ?_) (safe := .inl ⟨rfl, ⟨_, rfl⟩, ⟨_, rfl⟩⟩) (nd := nd))
    exact ew_one (es_ret (EG.ev (eg_ifF (et_cmp (CmpR.to cm_eqS (show decide (("under made" : Str) = "over made") = false by decide +kernel)) (ev_ix (ev_var 0 rfl) ev_int rfl) ev_str) (el_lst (ea_cons (EG.ev (el_slice (ev_var 2 rfl) (eo_some ev_int) eo_none (cut_tailK _ _))) (ea_cons (EV.to (d' := emb (.un B0 A0)) (ev_tup (ea_cons ev_str (ea_cons (ev_ix (ev_var 2 rfl) ev_int (by exact at_zero _ _)) (ea_cons (ev_var 3 rfl) ea_nil)))) rfl) ea_nil)) (small_len rfl)))) rfl)
  | _ => cases hm
/-! ### _law_told_used -/
abbrev st_law_told_used : Stmt := top 76
theorem sc_law_told_used : FnScope ["_law_value", "_law_word_here", "_law_place", "_law_one", "_law_other", "_law_row", "_law_kind_here", "_law_late"] ["_law_value"] (defScope st_law_told_used) := ⟨rfl, rfl, rfl, by decide +kernel, rfl, by decide +kernel, by decide +kernel⟩
theorem cat_ou (k : Kd) (z r : List Kd) : embK [] ++ embK (k :: z) ++ embK r = embK (k :: (z ++ r)) := by rw [← embK_app, ← embK_app] <;> rfl
theorem cat_uu (k : Kd) (z r : List Kd) : embK [] ++ embK (z ++ [k]) ++ embK r = embK (z ++ k :: r) := by rw [← embK_app, ← embK_app, List.nil_append, List.append_assoc] <;> rfl
theorem cat_ct (z r : List Kd) : embK [] ++ embK z ++ embK r = embK (z ++ r) := by rw [← embK_app, ← embK_app, List.nil_append]
theorem ok_law_told_used (G : Mg K mg) (n l : Nat) (C_law_is_place : Cal P w K mg base 1 "_law_is_place" ["_law_value", "_law_many"] (spR K r_law_is_place)) (C_law_tells : CalF P w K mg base l "_law_tells" ["_law_value"] (spR K (r_law_tells n))) (F : Fun K "_law_told_used" "_law_told_used" st_law_told_used f fd) : FnF P w K mg base (l + 1) f fd ["_law_value"] (spR K (r_law_told_used n)) := by
  refine Fun.okRF F sc_law_told_used (r_law_told_used n) (by rintro _ _ ⟨_, _, _, rfl, _⟩; rfl) fun cdv A outer s H E hr ds r h => ?_
  have nd := sc_law_told_used.nd
  obtain ⟨d, x, g, rfl, h, hm, rfl⟩ := h
  cases h with
  | ou h1 h2 h3 h4 =>
    rename_i a b z r A0 B0
    have gB := h1.good
    refine ew_cons (es_unp4 1 2 3 4 (ev_tup (ea_cons (ev_ix (ev_var 0 rfl) ev_int rfl) (ea_cons (ev_ix (ev_var 0 rfl) ev_int rfl) (ea_cons (eg_callF C_law_tells (hr.mono (by omega)) (ea_cons (ev_ix (ev_var 0 rfl) ev_int rfl) ea_nil) ⟨_, _, _, rfl, h1, rfl⟩) (ea_cons (eg_callF C_law_tells (hr.mono (by omega)) (ea_cons (ev_ix (ev_var 0 rfl) ev_int rfl) ea_nil) ⟨_, _, _, rfl, h2, rfl⟩) ea_nil))))) (EW.nrm [_, _, _, _, _, _, _, _] rfl ?_) (nd := nd))
    refine ew_cons (es_ifF (et_bw (eb_or (k := false) (k' := false) (et_cmp (CmpR.to cm_isN rfl) (ev_var 3 rfl) ev_non) (fun _ => eb_or (k := false) (k' := false) (et_cmp (CmpR.to cm_isN rfl) (ev_var 4 rfl) ev_non) (fun _ => eb_or1 (et_not (et_val (eg_call C_law_is_place (hr.room.mono (by omega)) (ea_cons (ev_var 2 rfl) (ea_cons (eg_callB (cr_lenL trivial) (ea_cons (ev_ix (ev_var 4 rfl) ev_int rfl) ea_nil) G.len boot_len) ea_nil)) ⟨_, rfl, by rw [embK_len, List.length_cons]; omega, rfl⟩))))))) (ew_nil ?_))
    refine ew_cons (es_par 5 6 (r1 := .dat (.list (embK (A0 :: r)))) (r2 := .dat (emb A0)) (ev_ix (ev_var 4 rfl) ev_int rfl) (ev_ix (ev_ix (ev_var 4 rfl) ev_int rfl) (ev_var 2 rfl) (by exact at_zero _ _)) (EW.nrm [_, _, _, _, _, _, _, _] rfl ?_) (nd := nd))
    refine ew_cons (es_ifF (et_bw (eb_andF (et_cmp (CmpR.to cm_eqS (show decide (("over used" : Str) = "cut") = false by decide +kernel)) (ev_var 1 rfl) ev_str))) (ew_nil ?_))
    refine ew_cons (es_set 7 (r := .dat (.list (embK z))) (ev_ix (ev_var 3 rfl) ev_int rfl) (EW.nrm [_, _, _, _, _, _, _, _] rfl ?_) (nd := nd))
    refine ew_cons (es_ifT (et_cmp (CmpR.to cm_eqS (show decide (("over used" : Str) = "over used") = true by decide +kernel)) (ev_var 1 rfl) ev_str) (ew_one (es_set 7 (r := .dat (.list (embK (.ov A0 B0 :: z)))) (EV.to (EG.ev (eg_bin (br_cat (le_line (by simp only [embK_len, List.length_append, List.length_cons, List.length_nil]; omega))) (EG.ev (el_lst (ea_cons (EV.to (d' := emb (.ov A0 B0)) (ev_tup (ea_cons ev_str (ea_cons (ev_var 6 rfl) (ea_cons (ev_ix (ev_var 3 rfl) ev_int rfl) ea_nil)))) rfl) ea_nil) (small_len rfl))) (ev_var 7 rfl))) (rfl)) (EW.nrm [_, _, _, _, _, _, _, _] rfl ?_) (nd := nd))))
    refine ew_cons (es_ifF (et_cmp (CmpR.to cm_eqS (show decide (("over used" : Str) = "under used") = false by decide +kernel)) (ev_var 1 rfl) ev_str) (ew_nil ?_))
    exact ew_one (es_ret (EG.ev (el_lst (ea_cons (EV.to (d' := .list (embK _)) (EG.ev (eg_bin (br_cat (le_line (by simp only [embK_len, List.length_append, List.length_cons, List.length_nil]; omega))) (EG.ev (eg_bin (br_cat (le_line (by simp only [embK_len, List.length_append, List.length_cons, List.length_nil]; omega))) (EG.ev (el_slice (ev_var 5 rfl) eo_none (eo_some (ev_var 2 rfl)) (cut_from0 _))) (ev_var 7 rfl))) (EG.ev (el_slice (ev_var 5 rfl) (eo_some (eg_bin br_add (ev_var 2 rfl) ev_int)) eo_none (cut_from1 _ _))))) (congrArg PyData.list (cat_ou (.ov A0 B0) z r))) (ea_cons (ev_ix (ev_var 4 rfl) ev_int rfl) ea_nil)) (small_len rfl))) rfl)
  | uu h1 h2 h3 h4 =>
    rename_i a b z r A0 B0
    have gB := h1.good
    refine ew_cons (es_unp4 1 2 3 4 (ev_tup (ea_cons (ev_ix (ev_var 0 rfl) ev_int rfl) (ea_cons (ev_ix (ev_var 0 rfl) ev_int rfl) (ea_cons (eg_callF C_law_tells (hr.mono (by omega)) (ea_cons (ev_ix (ev_var 0 rfl) ev_int rfl) ea_nil) ⟨_, _, _, rfl, h1, rfl⟩) (ea_cons (eg_callF C_law_tells (hr.mono (by omega)) (ea_cons (ev_ix (ev_var 0 rfl) ev_int rfl) ea_nil) ⟨_, _, _, rfl, h2, rfl⟩) ea_nil))))) (EW.nrm [_, _, _, _, _, _, _, _] rfl ?_) (nd := nd))
    refine ew_cons (es_ifF (et_bw (eb_or (k := false) (k' := false) (et_cmp (CmpR.to cm_isN rfl) (ev_var 3 rfl) ev_non) (fun _ => eb_or (k := false) (k' := false) (et_cmp (CmpR.to cm_isN rfl) (ev_var 4 rfl) ev_non) (fun _ => eb_or1 (et_not (et_val (eg_call C_law_is_place (hr.room.mono (by omega)) (ea_cons (ev_var 2 rfl) (ea_cons (eg_callB (cr_lenL trivial) (ea_cons (ev_ix (ev_var 4 rfl) ev_int rfl) ea_nil) G.len boot_len) ea_nil)) ⟨_, rfl, by rw [embK_len, List.length_cons]; omega, rfl⟩))))))) (ew_nil ?_))
    refine ew_cons (es_par 5 6 (r1 := .dat (.list (embK (A0 :: r)))) (r2 := .dat (emb A0)) (ev_ix (ev_var 4 rfl) ev_int rfl) (ev_ix (ev_ix (ev_var 4 rfl) ev_int rfl) (ev_var 2 rfl) (by exact at_zero _ _)) (EW.nrm [_, _, _, _, _, _, _, _] rfl ?_) (nd := nd))
    refine ew_cons (es_ifF (et_bw (eb_andF (et_cmp (CmpR.to cm_eqS (show decide (("under used" : Str) = "cut") = false by decide +kernel)) (ev_var 1 rfl) ev_str))) (ew_nil ?_))
    refine ew_cons (es_set 7 (r := .dat (.list (embK z))) (ev_ix (ev_var 3 rfl) ev_int rfl) (EW.nrm [_, _, _, _, _, _, _, _] rfl ?_) (nd := nd))
    refine ew_cons (es_ifF (et_cmp (CmpR.to cm_eqS (show decide (("under used" : Str) = "over used") = false by decide +kernel)) (ev_var 1 rfl) ev_str) (ew_nil ?_))
    refine ew_cons (es_ifT (et_cmp (CmpR.to cm_eqS (show decide (("under used" : Str) = "under used") = true by decide +kernel)) (ev_var 1 rfl) ev_str) (ew_one (es_set 7 (r := .dat (.list (embK (z ++ [.un B0 A0])))) (EV.to (EG.ev (eg_bin (br_cat (le_line (by simp only [embK_len, List.length_append, List.length_cons, List.length_nil]; omega))) (ev_var 7 rfl) (EG.ev (el_lst (ea_cons (EV.to (d' := emb (.un B0 A0)) (ev_tup (ea_cons ev_str (ea_cons (ev_ix (ev_var 3 rfl) ev_int rfl) (ea_cons (ev_var 6 rfl) ea_nil)))) rfl) ea_nil) (small_len rfl))))) (by rw [embK_app] <;> rfl)) (EW.nrm [_, _, _, _, _, _, _, _] rfl ?_) (nd := nd))))
    exact ew_one (es_ret (EG.ev (el_lst (ea_cons (EV.to (d' := .list (embK _)) (EG.ev (eg_bin (br_cat (le_line (by simp only [embK_len, List.length_append, List.length_cons, List.length_nil]; omega))) (EG.ev (eg_bin (br_cat (le_line (by simp only [embK_len, List.length_append, List.length_cons, List.length_nil]; omega))) (EG.ev (el_slice (ev_var 5 rfl) eo_none (eo_some (ev_var 2 rfl)) (cut_from0 _))) (ev_var 7 rfl))) (EG.ev (el_slice (ev_var 5 rfl) (eo_some (eg_bin br_add (ev_var 2 rfl) ev_int)) eo_none (cut_from1 _ _))))) (congrArg PyData.list (cat_uu (.un B0 A0) z r))) (ea_cons (ev_ix (ev_var 4 rfl) ev_int rfl) ea_nil)) (small_len rfl))) rfl)
  | ct h1 h2 h3 =>
    rename_i a b z r B0
    have hB := And.intro h1.good.gok h1.good.gdep
    refine ew_cons (es_unp4 1 2 3 4 (ev_tup (ea_cons (ev_ix (ev_var 0 rfl) ev_int rfl) (ea_cons (ev_ix (ev_var 0 rfl) ev_int rfl) (ea_cons (eg_callF C_law_tells (hr.mono (by omega)) (ea_cons (ev_ix (ev_var 0 rfl) ev_int rfl) ea_nil) ⟨_, _, _, rfl, h1, rfl⟩) (ea_cons (eg_callF C_law_tells (hr.mono (by omega)) (ea_cons (ev_ix (ev_var 0 rfl) ev_int rfl) ea_nil) ⟨_, _, _, rfl, h2, rfl⟩) ea_nil))))) (EW.nrm [_, _, _, _, _, _, _, _] rfl ?_) (nd := nd))
    refine ew_cons (es_ifF (et_bw (eb_or (k := false) (k' := false) (et_cmp (CmpR.to cm_isN rfl) (ev_var 3 rfl) ev_non) (fun _ => eb_or (k := false) (k' := false) (et_cmp (CmpR.to cm_isN rfl) (ev_var 4 rfl) ev_non) (fun _ => eb_or1 (et_not (et_val (eg_call C_law_is_place (hr.room.mono (by omega)) (ea_cons (ev_var 2 rfl) (ea_cons (eg_callB (cr_lenL trivial) (ea_cons (ev_ix (ev_var 4 rfl) ev_int rfl) ea_nil) G.len boot_len) ea_nil)) ⟨_, rfl, by rw [embK_len, List.length_cons]; omega, rfl⟩))))))) (ew_nil ?_))
    refine ew_cons (es_par 5 6 (r1 := .dat (.list (embK (B0 :: r)))) (r2 := .dat (emb B0)) (ev_ix (ev_var 4 rfl) ev_int rfl) (ev_ix (ev_ix (ev_var 4 rfl) ev_int rfl) (ev_var 2 rfl) (by exact at_zero _ _)) (EW.nrm [_, _, _, _, _, _, _, _] rfl ?_) (nd := nd))
    refine ew_cons (es_ifF (et_bw (eb_andT (et_cmp (CmpR.to cm_eqS (show decide (("cut" : Str) = "cut") = true by decide +kernel)) (ev_var 1 rfl) ev_str) (eb_and1 (et_cmp (CmpR.to (cm_ne hr.units (lay_emb hB.1) (lay_emb hB.1) (by rw [dep_emb]; omega)) (by rw [eqv_emb, decide_eq_true rfl] <;> rfl)) (ev_var 6 rfl) (ev_ix (ev_var 3 rfl) ev_int rfl))))) (ew_nil ?_))
    refine ew_cons (es_set 7 (r := .dat (.list (embK z))) (ev_ix (ev_var 3 rfl) ev_int rfl) (EW.nrm [_, _, _, _, _, _, _, _] rfl ?_) (nd := nd))
    refine ew_cons (es_ifF (et_cmp (CmpR.to cm_eqS (show decide (("cut" : Str) = "over used") = false by decide +kernel)) (ev_var 1 rfl) ev_str) (ew_nil ?_))
    refine ew_cons (es_ifF (et_cmp (CmpR.to cm_eqS (show decide (("cut" : Str) = "under used") = false by decide +kernel)) (ev_var 1 rfl) ev_str) (ew_nil ?_))
    exact ew_one (es_ret (EG.ev (el_lst (ea_cons (EV.to (d' := .list (embK _)) (EG.ev (eg_bin (br_cat (le_line (by simp only [embK_len, List.length_append, List.length_cons, List.length_nil]; omega))) (EG.ev (eg_bin (br_cat (le_line (by simp only [embK_len, List.length_append, List.length_cons, List.length_nil]; omega))) (EG.ev (el_slice (ev_var 5 rfl) eo_none (eo_some (ev_var 2 rfl)) (cut_from0 _))) (ev_var 7 rfl))) (EG.ev (el_slice (ev_var 5 rfl) (eo_some (eg_bin br_add (ev_var 2 rfl) ev_int)) eo_none (cut_from1 _ _))))) (congrArg PyData.list (cat_ct z r))) (ea_cons (ev_ix (ev_var 4 rfl) ev_int rfl) ea_nil)) (small_len rfl))) rfl)
  | _ => cases hm
end
end PU
namespace PU
open PySem PySem.Spec PyProof.Rows L2 StX MM

theorem cut_from2 (A B : Kd) (r : List Kd) : cutD (embK (A :: B :: r)) (some (0 + 2)) none = embK r := cut_two A B r
section
variable {P : Program} {w : World} {K : PySem.W.Frag} {mg : Str → Option Value} {base : Heap} {f : Addr} {fd : FuncData}

/-! ### _law_tells -/
abbrev st_law_tells : Stmt := top 78
theorem sc_law_tells : FnScope ["_law_value", "_law_word_here", "_law_one", "_law_other", "_law_told", "_law_row", "_law_place"] ["_law_value"] (defScope st_law_tells) := ⟨rfl, rfl, rfl, by decide +kernel, rfl, by decide +kernel, by decide +kernel⟩
theorem ok_law_tells (G : Mg K mg) (C_law_is_kind : Cal P w K mg base 41 "_law_is_kind" ["_law_value"] (spR K (r_law_is_kind 40))) (C_law_is_place : Cal P w K mg base 1 "_law_is_place" ["_law_value", "_law_many"] (spR K r_law_is_place)) {fm fu : Addr} {dm du : FuncData} (Fm : Fun K "_law_told_made" "_law_told_made" st_law_told_made fm dm) (Bm : Binds K dm ["_law_value"] []) (mm : mg "_law_told_made" = some (.ref fm))
    (Fu : Fun K "_law_told_used" "_law_told_used" st_law_told_used fu du) (Bu : Binds K du ["_law_value"] []) (mu : mg "_law_told_used" = some (.ref fu)) (F : Fun K "_law_tells" "_law_tells" st_law_tells f fd) (bF : Binds K fd ["_law_value"] []) (mF : mg "_law_tells" = some (.ref f)) :
    ∀ n : Nat, FnF P w K mg base (2 * n) f fd ["_law_value"] (spR K (r_law_tells n)) := by
  intro n
  induction n with
  | zero =>
    refine none_leftF fun vs H Q E h => ?_
    obtain ⟨_, _, _, _, _, ⟨d, x, g, _, h, _⟩, _⟩ := h
    cases h
  | succ n ih =>
    have C_law_tells : CalF P w K mg base (2 * n) "_law_tells" ["_law_value"] (spR K (r_law_tells n)) := calF_of mF F.kp bF ih
    have C_law_told_made : CalF P w K mg base (2 * n + 1) "_law_told_made" ["_law_value"] (spR K (r_law_told_made n)) := calF_of mm Fm.kp Bm (ok_law_told_made G n _ C_law_tells Fm)
    have C_law_told_used : CalF P w K mg base (2 * n + 1) "_law_told_used" ["_law_value"] (spR K (r_law_told_used n)) := calF_of mu Fu.kp Bu (ok_law_told_used G n _ C_law_is_place C_law_tells Fu)
    refine Fun.okRF (r := 2 * n + 1) F sc_law_tells (r_law_tells (n + 1)) (by rintro _ _ ⟨_, _, _, rfl, _⟩; rfl) fun cdv A outer s H E hr ds r h => ?_
    have nd := sc_law_tells.nd
    obtain ⟨d, x, g, rfl, h, rfl⟩ := h
    have hlay := lay_embD h
    cases id h with
    | is hk hd => exact (ew_cons (es_ifF (et_bw (eb_orF (et_not (et_val (G.isi .tuple rfl rfl rfl (ev_var 0 rfl)))) (eb_orF (et_cmp (cm_eqU hr.units hlay) (ev_var 0 rfl) (ev_tup ea_nil)) (eb_or1 (et_not (et_val (G.isi .str rfl rfl rfl (ev_ix (ev_var 0 rfl) ev_int rfl)))))))) (ew_nil 
  (ew_cons (es_set 1 (ev_ix (ev_var 0 rfl) ev_int rfl) (EW.nrm [_, _, _, _, _, _, _] rfl
  (ew_cons (es_ifT (et_cmp (CmpR.to cm_eqS (by decide +kernel)) (ev_var 1 rfl) ev_str) (ew_one (es_ret (EG.ev (eg_ifT (et_bw (eb_andT (et_cmp (CmpR.to cm_eqI rfl) (eg_callB (cr_len rfl) (ea_cons (ev_var 0 rfl) ea_nil) G.len boot_len) ev_int) (eb_and1 (et_val (eg_call C_law_is_kind (hr.room.mono (by omega)) (ea_cons (ev_ix (ev_var 0 rfl) ev_int rfl) ea_nil) ⟨_, rfl, hk, hd, rfl⟩))))) (el_lst (ea_cons (EG.ev (el_lst (ea_cons (ev_ix (ev_var 0 rfl) ev_int rfl) ea_nil) (small_len rfl))) (ea_cons (ev_ix (ev_var 0 rfl) ev_int rfl) ea_nil)) (small_len rfl)))) rfl))))) (nd := nd))))))
    | om h1 h2 h3 => exact (ew_cons (es_ifF (et_bw (eb_orF (et_not (et_val (G.isi .tuple rfl rfl rfl (ev_var 0 rfl)))) (eb_orF (et_cmp (cm_eqU hr.units hlay) (ev_var 0 rfl) (ev_tup ea_nil)) (eb_or1 (et_not (et_val (G.isi .str rfl rfl rfl (ev_ix (ev_var 0 rfl) ev_int rfl)))))))) (ew_nil 
  (ew_cons (es_set 1 (ev_ix (ev_var 0 rfl) ev_int rfl) (EW.nrm [_, _, _, _, _, _, _] rfl
  (ew_cons (es_ifF (et_cmp (CmpR.to cm_eqS (by decide +kernel)) (ev_var 1 rfl) ev_str) (ew_nil 
  (ew_cons (es_ifT (et_bw (eb_andT (et_cmp (CmpR.to (cm_inT (l := ["over made", "under made"])) (by decide +kernel)) (ev_var 1 rfl) (ev_tup (ea_cons ev_str (ea_cons ev_str ea_nil)))) (eb_and1 (et_cmp (CmpR.to cm_eqI rfl) (eg_callB (cr_len rfl) (ea_cons (ev_var 0 rfl) ea_nil) G.len boot_len) ev_int)))) (ew_one (es_ret (eg_callF C_law_told_made (hr.mono (by omega)) (ea_cons (ev_var 0 rfl) ea_nil) ⟨_, _, _, rfl, h, rfl, rfl⟩) rfl)))))))) (nd := nd))))))
    | um h1 h2 h3 => exact (ew_cons (es_ifF (et_bw (eb_orF (et_not (et_val (G.isi .tuple rfl rfl rfl (ev_var 0 rfl)))) (eb_orF (et_cmp (cm_eqU hr.units hlay) (ev_var 0 rfl) (ev_tup ea_nil)) (eb_or1 (et_not (et_val (G.isi .str rfl rfl rfl (ev_ix (ev_var 0 rfl) ev_int rfl)))))))) (ew_nil 
  (ew_cons (es_set 1 (ev_ix (ev_var 0 rfl) ev_int rfl) (EW.nrm [_, _, _, _, _, _, _] rfl
  (ew_cons (es_ifF (et_cmp (CmpR.to cm_eqS (by decide +kernel)) (ev_var 1 rfl) ev_str) (ew_nil 
  (ew_cons (es_ifT (et_bw (eb_andT (et_cmp (CmpR.to (cm_inT (l := ["over made", "under made"])) (by decide +kernel)) (ev_var 1 rfl) (ev_tup (ea_cons ev_str (ea_cons ev_str ea_nil)))) (eb_and1 (et_cmp (CmpR.to cm_eqI rfl) (eg_callB (cr_len rfl) (ea_cons (ev_var 0 rfl) ea_nil) G.len boot_len) ev_int)))) (ew_one (es_ret (eg_callF C_law_told_made (hr.mono (by omega)) (ea_cons (ev_var 0 rfl) ea_nil) ⟨_, _, _, rfl, h, rfl, rfl⟩) rfl)))))))) (nd := nd))))))
    | tm h1 h2 h3 h4 => exact (ew_cons (es_ifF (et_bw (eb_orF (et_not (et_val (G.isi .tuple rfl rfl rfl (ev_var 0 rfl)))) (eb_orF (et_cmp (cm_eqU hr.units hlay) (ev_var 0 rfl) (ev_tup ea_nil)) (eb_or1 (et_not (et_val (G.isi .str rfl rfl rfl (ev_ix (ev_var 0 rfl) ev_int rfl)))))))) (ew_nil 
  (ew_cons (es_set 1 (ev_ix (ev_var 0 rfl) ev_int rfl) (EW.nrm [_, _, _, _, _, _, _] rfl
  (ew_cons (es_ifF (et_cmp (CmpR.to cm_eqS (by decide +kernel)) (ev_var 1 rfl) ev_str) (ew_nil 
  (ew_cons (es_ifF (et_bw (eb_andF (et_cmp (CmpR.to (cm_inT (l := ["over made", "under made"])) (by decide +kernel)) (ev_var 1 rfl) (ev_tup (ea_cons ev_str (ea_cons ev_str ea_nil)))))) (ew_nil 
  (ew_cons (es_ifF (et_bw (eb_andF (et_cmp (CmpR.to (cm_inT (l := ["over used", "under used", "cut"])) (by decide +kernel)) (ev_var 1 rfl) (ev_tup (ea_cons ev_str (ea_cons ev_str (ea_cons ev_str ea_nil))))))) (ew_nil 
  (ew_cons (es_ifT (et_bw (eb_andT (et_cmp (CmpR.to cm_eqS (by decide +kernel)) (ev_var 1 rfl) ev_str) (eb_and1 (et_cmp (CmpR.to cm_eqI rfl) (eg_callB (cr_len rfl) (ea_cons (ev_var 0 rfl) ea_nil) G.len boot_len) ev_int)))) (ew_cons (es_par 2 3 (eg_callF C_law_tells (hr.mono (by omega)) (ea_cons (ev_ix (ev_var 0 rfl) ev_int rfl) ea_nil) ⟨_, _, _, rfl, h1, rfl⟩) (eg_callF C_law_tells (hr.mono (by omega)) (ea_cons (ev_ix (ev_var 0 rfl) ev_int rfl) ea_nil) ⟨_, _, _, rfl, h2, rfl⟩) (EW.nrm [_, _, _, _, _, _, _] rfl
  (ew_one (es_ret (EG.ev (eg_ifF (et_bw (eb_orF (et_cmp (CmpR.to cm_isN rfl) (ev_var 2 rfl) ev_non) (eb_or1 (et_cmp (CmpR.to cm_isN rfl) (ev_var 3 rfl) ev_non)))) (el_lst (ea_cons (EG.ev (eg_bin (br_cat (le_line (by rw [embK_len, embK_len]; omega))) (ev_ix (ev_var 2 rfl) ev_int rfl) (ev_ix (ev_var 3 rfl) ev_int rfl))) (ea_cons (ev_tup (ea_cons ev_str (ea_cons (ev_ix (ev_var 2 rfl) ev_int rfl) (ea_cons (ev_ix (ev_var 3 rfl) ev_int rfl) ea_nil)))) ea_nil)) (small_len rfl)))) (congrArg (fun z => Res.dat (PyData.list [.list z, emb (.th _ _)])) (embK_app _ _).symm)))) (nd := nd))))))))))))))) (nd := nd))))))
    | ou h1 h2 h3 h4 => exact (ew_cons (es_ifF (et_bw (eb_orF (et_not (et_val (G.isi .tuple rfl rfl rfl (ev_var 0 rfl)))) (eb_orF (et_cmp (cm_eqU hr.units hlay) (ev_var 0 rfl) (ev_tup ea_nil)) (eb_or1 (et_not (et_val (G.isi .str rfl rfl rfl (ev_ix (ev_var 0 rfl) ev_int rfl)))))))) (ew_nil 
  (ew_cons (es_set 1 (ev_ix (ev_var 0 rfl) ev_int rfl) (EW.nrm [_, _, _, _, _, _, _] rfl
  (ew_cons (es_ifF (et_cmp (CmpR.to cm_eqS (by decide +kernel)) (ev_var 1 rfl) ev_str) (ew_nil 
  (ew_cons (es_ifF (et_bw (eb_andF (et_cmp (CmpR.to (cm_inT (l := ["over made", "under made"])) (by decide +kernel)) (ev_var 1 rfl) (ev_tup (ea_cons ev_str (ea_cons ev_str ea_nil)))))) (ew_nil 
  (ew_cons (es_ifT (et_bw (eb_andT (et_cmp (CmpR.to (cm_inT (l := ["over used", "under used", "cut"])) (by decide +kernel)) (ev_var 1 rfl) (ev_tup (ea_cons ev_str (ea_cons ev_str (ea_cons ev_str ea_nil))))) (eb_and1 (et_cmp (CmpR.to cm_eqI rfl) (eg_callB (cr_len rfl) (ea_cons (ev_var 0 rfl) ea_nil) G.len boot_len) ev_int)))) (ew_one (es_ret (eg_callF C_law_told_used (hr.mono (by omega)) (ea_cons (ev_var 0 rfl) ea_nil) ⟨_, _, _, rfl, h, rfl, rfl⟩) rfl))))))))))) (nd := nd))))))
    | uu h1 h2 h3 h4 => exact (ew_cons (es_ifF (et_bw (eb_orF (et_not (et_val (G.isi .tuple rfl rfl rfl (ev_var 0 rfl)))) (eb_orF (et_cmp (cm_eqU hr.units hlay) (ev_var 0 rfl) (ev_tup ea_nil)) (eb_or1 (et_not (et_val (G.isi .str rfl rfl rfl (ev_ix (ev_var 0 rfl) ev_int rfl)))))))) (ew_nil 
  (ew_cons (es_set 1 (ev_ix (ev_var 0 rfl) ev_int rfl) (EW.nrm [_, _, _, _, _, _, _] rfl
  (ew_cons (es_ifF (et_cmp (CmpR.to cm_eqS (by decide +kernel)) (ev_var 1 rfl) ev_str) (ew_nil 
  (ew_cons (es_ifF (et_bw (eb_andF (et_cmp (CmpR.to (cm_inT (l := ["over made", "under made"])) (by decide +kernel)) (ev_var 1 rfl) (ev_tup (ea_cons ev_str (ea_cons ev_str ea_nil)))))) (ew_nil 
  (ew_cons (es_ifT (et_bw (eb_andT (et_cmp (CmpR.to (cm_inT (l := ["over used", "under used", "cut"])) (by decide +kernel)) (ev_var 1 rfl) (ev_tup (ea_cons ev_str (ea_cons ev_str (ea_cons ev_str ea_nil))))) (eb_and1 (et_cmp (CmpR.to cm_eqI rfl) (eg_callB (cr_len rfl) (ea_cons (ev_var 0 rfl) ea_nil) G.len boot_len) ev_int)))) (ew_one (es_ret (eg_callF C_law_told_used (hr.mono (by omega)) (ea_cons (ev_var 0 rfl) ea_nil) ⟨_, _, _, rfl, h, rfl, rfl⟩) rfl))))))))))) (nd := nd))))))
    | tu h2 h3 =>
      have gl := h2.good.len
      rw [List.length_cons, List.length_cons] at gl
      exact (ew_cons (es_ifF (et_bw (eb_orF (et_not (et_val (G.isi .tuple rfl rfl rfl (ev_var 0 rfl)))) (eb_orF (et_cmp (cm_eqU hr.units hlay) (ev_var 0 rfl) (ev_tup ea_nil)) (eb_or1 (et_not (et_val (G.isi .str rfl rfl rfl (ev_ix (ev_var 0 rfl) ev_int rfl)))))))) (ew_nil 
  (ew_cons (es_set 1 (ev_ix (ev_var 0 rfl) ev_int rfl) (EW.nrm [_, _, _, _, _, _, _] rfl
  (ew_cons (es_ifF (et_cmp (CmpR.to cm_eqS (by decide +kernel)) (ev_var 1 rfl) ev_str) (ew_nil 
  (ew_cons (es_ifF (et_bw (eb_andF (et_cmp (CmpR.to (cm_inT (l := ["over made", "under made"])) (by decide +kernel)) (ev_var 1 rfl) (ev_tup (ea_cons ev_str (ea_cons ev_str ea_nil)))))) (ew_nil 
  (ew_cons (es_ifF (et_bw (eb_andF (et_cmp (CmpR.to (cm_inT (l := ["over used", "under used", "cut"])) (by decide +kernel)) (ev_var 1 rfl) (ev_tup (ea_cons ev_str (ea_cons ev_str (ea_cons ev_str ea_nil))))))) (ew_nil 
  (ew_cons (es_ifF (et_bw (eb_andF (et_cmp (CmpR.to cm_eqS (by decide +kernel)) (ev_var 1 rfl) ev_str))) (ew_nil 
  (ew_cons (es_ifF (et_bw (eb_orF (et_cmp (CmpR.to cm_neS (by decide +kernel)) (ev_var 1 rfl) ev_str) (eb_or1 (et_cmp (CmpR.to cm_neI rfl) (eg_callB (cr_len rfl) (ea_cons (ev_var 0 rfl) ea_nil) G.len boot_len) ev_int)))) (ew_nil 
  (ew_cons (es_set 4 (eg_callF C_law_tells (hr.mono (by omega)) (ea_cons (ev_ix (ev_var 0 rfl) ev_int rfl) ea_nil) ⟨_, _, _, rfl, h2, rfl⟩) (EW.nrm [_, _, _, _, _, _, _] rfl
  (ew_cons (es_ifF (et_bw (eb_orF (et_cmp (CmpR.to cm_isN rfl) (ev_var 4 rfl) ev_non) (eb_or1 (et_not (et_val (eg_call C_law_is_place (hr.room.mono (by omega)) (ea_cons (ev_ix (ev_var 0 rfl) ev_int rfl) (ea_cons (eg_bin br_sub (eg_callB (cr_len rfl) (ea_cons (ev_ix (ev_var 4 rfl) ev_int rfl) ea_nil) G.len boot_len) ev_int) ea_nil)) ⟨_, rfl, by rw [embK_len, List.length_cons, List.length_cons]; omega, rfl⟩)))))) (ew_nil 
  (ew_cons (es_par 5 6 (ev_ix (ev_var 4 rfl) ev_int rfl) (ev_ix (ev_var 0 rfl) ev_int rfl) (EW.nrm [_, _, _, _, _, _, _] rfl
  (ew_one (es_ret (EG.ev (el_lst (ea_cons (EG.ev (eg_bin (br_cat (le_line (by simp only [embK_len, List.length_append, List.length_cons, List.length_nil]; omega))) (EG.ev (eg_bin (br_cat (le_line (by simp only [embK_len, List.length_append, List.length_cons, List.length_nil]; omega))) (EG.ev (el_slice (ev_var 5 rfl) eo_none (eo_some (ev_var 6 rfl)) (cut_from0 _))) (EG.ev (el_lst (ea_cons (ev_tup (ea_cons ev_str (ea_cons (ev_ix (ev_var 5 rfl) (ev_var 6 rfl) (by exact at_zero _ _)) (ea_cons (ev_ix (ev_var 5 rfl) (eg_bin br_add (ev_var 6 rfl) ev_int) (by exact ix_oneK _ _ _)) ea_nil)))) ea_nil) (small_len rfl))))) (EG.ev (el_slice (ev_var 5 rfl) (eo_some (eg_bin br_add (ev_var 6 rfl) ev_int)) eo_none (cut_from2 _ _ _))))) (ea_cons (ev_ix (ev_var 4 rfl) ev_int rfl) ea_nil)) (small_len rfl))) (congrArg (fun z => Res.dat (PyData.list [.list z, emb g])) rfl)))) (nd := nd))))))) (nd := nd))))))))))))))))))) (nd := nd))))))
    | ct h1 h2 h3 => exact (ew_cons (es_ifF (et_bw (eb_orF (et_not (et_val (G.isi .tuple rfl rfl rfl (ev_var 0 rfl)))) (eb_orF (et_cmp (cm_eqU hr.units hlay) (ev_var 0 rfl) (ev_tup ea_nil)) (eb_or1 (et_not (et_val (G.isi .str rfl rfl rfl (ev_ix (ev_var 0 rfl) ev_int rfl)))))))) (ew_nil 
  (ew_cons (es_set 1 (ev_ix (ev_var 0 rfl) ev_int rfl) (EW.nrm [_, _, _, _, _, _, _] rfl
  (ew_cons (es_ifF (et_cmp (CmpR.to cm_eqS (by decide +kernel)) (ev_var 1 rfl) ev_str) (ew_nil 
  (ew_cons (es_ifF (et_bw (eb_andF (et_cmp (CmpR.to (cm_inT (l := ["over made", "under made"])) (by decide +kernel)) (ev_var 1 rfl) (ev_tup (ea_cons ev_str (ea_cons ev_str ea_nil)))))) (ew_nil 
  (ew_cons (es_ifT (et_bw (eb_andT (et_cmp (CmpR.to (cm_inT (l := ["over used", "under used", "cut"])) (by decide +kernel)) (ev_var 1 rfl) (ev_tup (ea_cons ev_str (ea_cons ev_str (ea_cons ev_str ea_nil))))) (eb_and1 (et_cmp (CmpR.to cm_eqI rfl) (eg_callB (cr_len rfl) (ea_cons (ev_var 0 rfl) ea_nil) G.len boot_len) ev_int)))) (ew_one (es_ret (eg_callF C_law_told_used (hr.mono (by omega)) (ea_cons (ev_var 0 rfl) ea_nil) ⟨_, _, _, rfl, h, rfl, rfl⟩) rfl))))))))))) (nd := nd))))))
end
end PU
namespace PU
open PySem PySem.Spec PyProof.Rows L2 StX MM

theorem linked_snoc (s t : MM.Step) : ∀ c : Chain, linked (c ++ [t] ++ [s]) = (linked (c ++ [t]) && decide ((ends t).2 = (ends s).1))
  | [] => by show (decide ((ends t).2 = (ends s).1) && true) = (true && decide ((ends t).2 = (ends s).1)); rw [Bool.and_true, Bool.true_and]
  | [x] => by
    show (decide ((ends x).2 = (ends t).1) && (decide ((ends t).2 = (ends s).1) && true)) = ((decide ((ends x).2 = (ends t).1) && true) && decide ((ends t).2 = (ends s).1))
    rw [Bool.and_true, Bool.and_true]
  | x :: y :: c => by
    show (decide ((ends x).2 = (ends y).1) && linked (y :: c ++ [t] ++ [s])) = ((decide ((ends x).2 = (ends y).1) && linked (y :: c ++ [t])) && decide ((ends t).2 = (ends s).1))
    rw [linked_snoc s t (y :: c), Bool.and_assoc]
theorem linked_pre (b : Chain) : ∀ a : Chain, linked (a ++ b) = true → linked a = true
  | [], _ => rfl
  | [_], _ => rfl
  | x :: y :: a, h => by
    have h' : (decide ((ends x).2 = (ends y).1) && linked (y :: a ++ b)) = true := h
    rw [Bool.and_eq_true] at h'
    show (decide ((ends x).2 = (ends y).1) && linked (y :: a)) = true
    rw [h'.1, linked_pre b (y :: a) h'.2] <;> rfl
theorem kinds_one (s : MM.Step) : kindsOf [s] = [(ends s).1, (ends s).2] := rfl
theorem kinds_snoc (s : MM.Step) {c : Chain} (h : c ≠ []) : kindsOf (c ++ [s]) = kindsOf c ++ [(ends s).2] := by
  cases c with
  | nil => exact absurd rfl h
  | cons x c =>
    show (ends x).1 :: ((x :: c) ++ [s]).map _ = (ends x).1 :: ((x :: c).map _ ++ [_])
    rw [List.map_append] <;> rfl
theorem kinds_last (s : MM.Step) (c : Chain) : ∃ ks, kindsOf (c ++ [s]) = ks ++ [(ends s).2] := by
  cases c with
  | nil => exact ⟨[(ends s).1], rfl⟩
  | cons x c => exact ⟨kindsOf (x :: c), kinds_snoc s (by simp)⟩

section
variable {P : Program} {w : World} {K : PySem.W.Frag} {mg : Str → Option Value} {base : Heap} {f : Addr} {fd : FuncData}

/-! ### _law_step_ends -/
abbrev st_law_step_ends : Stmt := top 79
theorem sc_law_step_ends : FnScope ["_law_step", "_law_told"] ["_law_step"] (defScope st_law_step_ends) := ⟨rfl, rfl, rfl, by decide +kernel, rfl, by decide +kernel, by decide +kernel⟩
def r_law_step_ends : List PyData → Res → Prop := fun ds r => ∃ (s : MM.Step) (a b : Kd), ds = [embS s] ∧ SOk 40 130 s a b ∧ r = .dat (.list [emb a, emb b])
theorem ok_law_step_ends (G : Mg K mg) (C_law_tells : Cal P w K mg base 224 "_law_tells" ["_law_value"] (spR K (r_law_tells 130))) (F : Fun K "_law_step_ends" "_law_step_ends" st_law_step_ends f fd) : FnOk P w K mg base CX0 225 f fd ["_law_step"] (spR K r_law_step_ends) := by
  refine Fun.okR F sc_law_step_ends r_law_step_ends (by rintro _ _ ⟨_, _, _, rfl, _⟩; rfl) fun cdv A outer s H E hr ds r h => ?_
  have nd := sc_law_step_ends.nd
  obtain ⟨⟨u, d⟩, a, b, rfl, h, rfl⟩ := h
  cases u with
  | true =>
    have h : Tl 40 130 d [a] b := h
    show EW _ _ (startS _ [.tuple [.str "on", embD d]]) _ _ _
    exact (ew_cons (es_ifF (et_bw (eb_orF (et_not (et_val (G.isi .tuple rfl rfl rfl (ev_var 0 rfl)))) (eb_orF (et_cmp (CmpR.to cm_neI rfl) (eg_callB (cr_len rfl) (ea_cons (ev_var 0 rfl) ea_nil) G.len boot_len) ev_int) (eb_orF (et_not (et_val (G.isi .str rfl rfl rfl (ev_ix (ev_var 0 rfl) ev_int rfl)))) (eb_or1 (et_cmp (CmpR.to (cm_notInT (l := ["on", "back"])) (by decide +kernel)) (ev_ix (ev_var 0 rfl) ev_int rfl) (ev_tup (ea_cons ev_str (ea_cons ev_str ea_nil))))))))) (ew_nil 
  (ew_cons (es_set 1 (eg_call C_law_tells (hr.mono (by omega)) (ea_cons (ev_ix (ev_var 0 rfl) ev_int rfl) ea_nil) ⟨_, _, _, rfl, h, rfl⟩) 
  (ew_cons (es_ifF (et_bw (eb_orF (et_cmp (CmpR.to cm_isN rfl) (ev_var 1 rfl) ev_non) (eb_or1 (et_cmp (CmpR.to cm_neI rfl) (eg_callB (cr_len rfl) (ea_cons (ev_ix (ev_var 1 rfl) ev_int rfl) ea_nil) G.len boot_len) ev_int)))) (ew_nil 
  (ew_one (es_ret (EG.ev (eg_ifT (et_cmp (CmpR.to cm_eqS (by decide +kernel)) (ev_ix (ev_var 0 rfl) ev_int rfl) ev_str) (el_lst (ea_cons (ev_ix (ev_ix (ev_var 1 rfl) ev_int rfl) ev_int rfl) (ea_cons (ev_ix (ev_var 1 rfl) ev_int rfl) ea_nil)) (small_len rfl)))) rfl))))) (nd := nd))))))
  | false =>
    have h : Tl 40 130 d [b] a := h
    show EW _ _ (startS _ [.tuple [.str "back", embD d]]) _ _ _
    exact (ew_cons (es_ifF (et_bw (eb_orF (et_not (et_val (G.isi .tuple rfl rfl rfl (ev_var 0 rfl)))) (eb_orF (et_cmp (CmpR.to cm_neI rfl) (eg_callB (cr_len rfl) (ea_cons (ev_var 0 rfl) ea_nil) G.len boot_len) ev_int) (eb_orF (et_not (et_val (G.isi .str rfl rfl rfl (ev_ix (ev_var 0 rfl) ev_int rfl)))) (eb_or1 (et_cmp (CmpR.to (cm_notInT (l := ["on", "back"])) (by decide +kernel)) (ev_ix (ev_var 0 rfl) ev_int rfl) (ev_tup (ea_cons ev_str (ea_cons ev_str ea_nil))))))))) (ew_nil 
  (ew_cons (es_set 1 (eg_call C_law_tells (hr.mono (by omega)) (ea_cons (ev_ix (ev_var 0 rfl) ev_int rfl) ea_nil) ⟨_, _, _, rfl, h, rfl⟩) 
  (ew_cons (es_ifF (et_bw (eb_orF (et_cmp (CmpR.to cm_isN rfl) (ev_var 1 rfl) ev_non) (eb_or1 (et_cmp (CmpR.to cm_neI rfl) (eg_callB (cr_len rfl) (ea_cons (ev_ix (ev_var 1 rfl) ev_int rfl) ea_nil) G.len boot_len) ev_int)))) (ew_nil 
  (ew_one (es_ret (EG.ev (eg_ifF (et_cmp (CmpR.to cm_eqS (by decide +kernel)) (ev_ix (ev_var 0 rfl) ev_int rfl) ev_str) (el_lst (ea_cons (ev_ix (ev_var 1 rfl) ev_int rfl) (ea_cons (ev_ix (ev_ix (ev_var 1 rfl) ev_int rfl) ev_int rfl) ea_nil)) (small_len rfl)))) rfl))))) (nd := nd))))))
end
end PU
namespace PU
open PySem PySem.Spec PyProof.Rows L2 StX MM

theorem of4 {a b c : PyData} {y : Slot} (h : no1 y) : ownFree [.dat a, .dat b, .dat c, y] = true := by show (true && (true && (true && (!y.isOwn && true)))) = true; rw [show y.isOwn = false from h] <;> rfl
section
variable {P : Program} {w : World} {K : PySem.W.Frag} {mg : Str → Option Value} {base : Heap} {f : Addr} {fd : FuncData}

/-! ### _law_along -/
abbrev st_law_along : Stmt := top 80
theorem sc_law_along : FnScope ["_law_value", "_law_found", "_law_step", "_law_ends"] ["_law_value"] (defScope st_law_along) := ⟨rfl, rfl, rfl, by decide +kernel, rfl, by decide +kernel, by decide +kernel⟩
def r_law_along : List PyData → Res → Prop := fun ds r => (∃ c : Chain, ds = [.list (embC c)] ∧ Val c ∧ c.length ≤ 1000 ∧ c ≠ [] ∧ linked c = true ∧ r = .dat (.list (embK (kindsOf c)))) ∨
  (∃ c : Chain, ds = [.list (embC c)] ∧ Val c ∧ c.length ≤ 1000 ∧ (c = [] ∨ linked c = false) ∧ r = .dat .none) ∨ (∃ es : List PyData, ds = [.tuple es] ∧ r = .dat .none)
theorem ok_law_along (G : Mg K mg) (C_law_step_ends : Cal P w K mg base 225 "_law_step_ends" ["_law_step"] (spR K r_law_step_ends)) (F : Fun K "_law_along" "_law_along" st_law_along f fd) : FnOk P w K mg base CX0 226 f fd ["_law_value"] (spR K r_law_along) := by
  refine Fun.okR F sc_law_along r_law_along (by rintro _ _ (⟨_, rfl, _⟩ | ⟨_, rfl, _⟩ | ⟨_, rfl, _⟩) <;> rfl) fun cdv A outer s H E hr ds r h => ?_
  have nd := sc_law_along.nd
  have hu := hr.units
  have main : ∀ c : Chain, Val c → c.length ≤ 1000 → c ≠ [] → ∀ r : Res, (linked c = true → r = .dat (.list (embK (kindsOf c)))) → (linked c = false → r = .dat .none) →
      EW (cxOf CX0 P w K mg base ["_law_value", "_law_found", "_law_step", "_law_ends"] "_law_along" (defScope st_law_along) f cdv A outer s H E).nox (defBody st_law_along) (startS ["_law_value", "_law_found", "_law_step", "_law_ends"] [.list (embC c)]) .none (fun _ _ => r = .dat .none) (fun r' _ => r' = r) := fun c hv hlen hne r hr1 hr2 => by
    have hlay := lay_embC hv
    refine ew_cons (es_ifF (et_bw (eb_or (k := false) (k' := false) (et_not (et_val (G.isi .list rfl rfl rfl (ev_var 0 rfl)))) (fun _ => eb_or1 (et_cmp (CmpR.to (cm_eqNil hu hlay) (by cases c with | nil => exact absurd rfl hne | cons x c => rfl)) (ev_var 0 rfl) (EG.ev (el_lst ea_nil (small_len rfl))))))) (ew_nil ?_))
    refine ew_cons (es_set 1 (r := .dat (.list (embK (kindsOf [])))) (EG.ev (el_lst ea_nil (small_len rfl))) (EW.nrm [_, _, _, _] rfl (ew_cons ?_)) (nd := nd))
    refine es_for (ds := embC c) 2 (fun m δ' n' => ∃ x y : Slot, δ' = [.dat (.list (embC c)), .dat (.list (embK (kindsOf (c.take m)))), x, y] ∧ n' = .none ∧ no1 x ∧ no1 y ∧ linked (c.take m) = true) (ei_list (ev_var 0 rfl)) ⟨.unk, .unk, rfl, rfl, rfl, rfl, rfl⟩ (fun m dd δ' n' hdm hI => ?_) (fun δ' n' hI => ?_) nd
    · obtain ⟨x, y, rfl, rfl, hx, hy, hlk⟩ := hI
      obtain ⟨s, hs, hsm, rfl⟩ := map_get hdm
      have hso : SOk 40 130 s (ends s).1 (ends s).2 := by
        obtain ⟨a, b, h⟩ := hv s hsm
        rw [h.ends]; exact h
      have hvt : Val (c.take m) := fun x hx => hv x (List.mem_of_mem_take hx)
      have hml : (c.take m).length ≤ 1000 := by rw [List.length_take]; omega
      have hpre : c = c.take m ++ [s] ++ c.drop (m + 1) := by rw [← take_snoc hs, List.take_append_drop]
      rw [take_snoc hs]
      generalize c.take m = cur at hlk hvt hml hpre
      have hko := kinds_ok hvt
      have hlayk := layAll_embK fun k hk => (hko k hk).1
      have g1 := hso.good.1
      refine ⟨.inr (nl_embS s), EW.nrm [_, _, _, _] rfl (ew_cons (es_set 3 (eg_call C_law_step_ends (hr.mono (by omega)) (ea_cons (ev_var 2 rfl) ea_nil) ⟨s, _, _, rfl, hso, rfl⟩) (EW.nrm [_, _, _, _] rfl ?_) (safe := .inl (nob (of4 hy))) (nd := nd)))⟩
      rcases List.eq_nil_or_concat cur with rfl | ⟨cu, t, rfl⟩
      · refine ew_cons (es_ifF (et_bw (eb_or (k := false) (k' := false) (et_cmp (CmpR.to cm_isN rfl) (ev_var 3 rfl) ev_non) (fun _ => eb_or1 (et_bw (eb_andF (et_cmp (CmpR.to (cm_neNil hu rfl) rfl) (ev_var 1 rfl) (EG.ev (el_lst ea_nil (small_len rfl))))))))) (ew_nil ?_))
        exact ew_one (es_set 1 (r := .dat (.list (embK (kindsOf [s])))) (eg_ifF (et_cmp (CmpR.to (cm_neNil hu rfl) rfl) (ev_var 1 rfl) (EG.ev (el_lst ea_nil (small_len rfl)))) (ev_var 3 rfl)) ⟨_, _, rfl, rfl, rfl, rfl, rfl⟩ (nd := nd))
      · rw [List.concat_eq_append] at *
        obtain ⟨ks, hks⟩ := kinds_last t cu
        have g2 := hko (ends t).2 (by rw [hks]; exact List.mem_append_right _ List.mem_cons_self)
        have hne1 : (!(embK (kindsOf (cu ++ [t]))).isEmpty) = true := by rw [hks, embK_snoc]; simp
        have hlast : ixD (.list (embK (kindsOf (cu ++ [t])))) (-1) = some (emb (ends t).2) := by rw [hks]; exact ix_last ks _
        have hkl : (kindsOf (cu ++ [t])).length ≤ 2000 := by
          rw [List.length_append, List.length_singleton] at hml
          cases cu with
          | nil => exact (show 2 ≤ 2000 by omega)
          | cons q cu => show (((q :: cu) ++ [t]).map _).length + 1 ≤ 2000; rw [List.length_map, List.length_append, List.length_singleton]; omega
        have hsn := linked_snoc s t cu
        have hkn := kinds_snoc s (c := cu ++ [t]) (by simp)
        have tst : ∀ k : Bool, (!decide ((ends t).2 = (ends s).1)) = k → CmpR (cxOf CX0 P w K mg base ["_law_value", "_law_found", "_law_step", "_law_ends"] "_law_along" (defScope st_law_along) f cdv A outer ‹Shared› H E).nox .NotEq (emb (ends t).2) (emb (ends s).1) k := fun k hk => CmpR.to (cm_ne hu (lay_emb g2.1) (lay_emb g1.1) (by rw [dep_emb, dep_emb]; omega)) (by rw [eqv_emb]; exact hk)
        by_cases e : (ends t).2 = (ends s).1
        · refine ew_cons (es_ifF (et_bw (eb_or (k := false) (k' := false) (et_cmp (CmpR.to cm_isN rfl) (ev_var 3 rfl) ev_non) (fun _ => eb_or1 (et_bw (eb_andT (et_cmp (CmpR.to (cm_neNil hu hlayk) hne1) (ev_var 1 rfl) (EG.ev (el_lst ea_nil (small_len rfl)))) (eb_and1 (et_cmp (tst false (by rw [decide_eq_true e] <;> rfl)) (ev_ix (ev_var 1 rfl) (ev_neg ev_int) hlast) (ev_ix (ev_var 3 rfl) ev_int rfl)))))))) (ew_nil ?_))
          rw [hkn]
          exact ew_one (es_set 1 (r := .dat (.list (embK (kindsOf (cu ++ [t]) ++ [(ends s).2])))) (eg_ifT (et_cmp (CmpR.to (cm_neNil hu hlayk) hne1) (ev_var 1 rfl) (EG.ev (el_lst ea_nil (small_len rfl)))) (EV.to (EG.ev (eg_bin (br_cat (le_line (by rw [embK_len]; show _ + 1 ≤ 100000; omega))) (ev_var 1 rfl) (EG.ev (el_lst (ea_cons (ev_ix (ev_var 3 rfl) ev_int rfl) ea_nil) (small_len rfl))))) (by rw [embK_snoc] <;> rfl))) ⟨_, _, rfl, rfl, rfl, rfl, by rw [hsn, hlk, decide_eq_true e] <;> rfl⟩ (nd := nd))
        · have hcf : linked c = false := by
            cases hl : linked c with
            | false => rfl
            | true =>
              have : linked (cu ++ [t] ++ [s]) = true := linked_pre (c.drop (m + 1)) _ (by rw [← hpre]; exact hl)
              rw [hsn, decide_eq_false e, Bool.and_false] at this
              cases this
          exact ew_cons (es_ifT (et_bw (eb_or (k := false) (k' := true) (et_cmp (CmpR.to cm_isN rfl) (ev_var 3 rfl) ev_non) (fun _ => eb_or1 (et_bw (eb_andT (et_cmp (CmpR.to (cm_neNil hu hlayk) hne1) (ev_var 1 rfl) (EG.ev (el_lst ea_nil (small_len rfl)))) (eb_and1 (et_cmp (tst true (by rw [decide_eq_false e] <;> rfl)) (ev_ix (ev_var 1 rfl) (ev_neg ev_int) hlast) (ev_ix (ev_var 3 rfl) ev_int rfl)))))))) (ew_one (es_ret ev_non (hr2 hcf).symm)))
    · obtain ⟨x, y, rfl, rfl, hx, hy, hlk⟩ := hI
      rw [show (embC c).length = c.length from embC_len c, List.take_length] at hlk ⊢
      exact ew_one (es_ret (ev_var 1 rfl) (hr1 hlk).symm)
  rcases h with ⟨c, rfl, hv, hlen, hne, hl, rfl⟩ | ⟨c, rfl, hv, hlen, hc, rfl⟩ | ⟨es, rfl, rfl⟩
  · exact main c hv hlen hne _ (fun _ => rfl) (fun h => by rw [hl] at h; cases h)
  · cases c with
    | nil => exact (ew_cons (es_ifT (et_bw (eb_or (k := false) (k' := true) (et_not (et_val (G.isi .list rfl rfl rfl (ev_var 0 rfl)))) (fun _ => eb_or1 (et_cmp (CmpR.to (cm_eqNil hu rfl) rfl) (ev_var 0 rfl) (EG.ev (el_lst ea_nil (small_len rfl))))))) (ew_one (es_ret ev_non rfl))))
    | cons x c =>
      have hc : linked (x :: c) = false := hc.elim (fun e => by cases e) id
      exact main (x :: c) hv hlen (by simp) _ (fun h => by rw [hc] at h; cases h) (fun _ => rfl)
  · exact (ew_cons (es_ifT (et_bw (eb_orT (et_not (et_val (G.isi .list rfl rfl rfl (ev_var 0 rfl)))))) (ew_one (es_ret ev_non rfl))))
end
end PU
namespace PU
open PySem PySem.Spec PyProof.Rows L2 StX MM

section
variable {P : Program} {w : World} {K : PySem.W.Frag} {mg : Str → Option Value} {base : Heap} {f : Addr} {fd : FuncData}

/-! ### _law_is_chain -/
abbrev st_law_is_chain : Stmt := top 81
theorem sc_law_is_chain : FnScope ["_law_one", "_law_other", "_law_value", "_law_kinds"] ["_law_one", "_law_other", "_law_value"] (defScope st_law_is_chain) := ⟨rfl, rfl, rfl, by decide +kernel, rfl, by decide +kernel, by decide +kernel⟩
def r_law_is_chain : List PyData → Res → Prop := fun ds r => ∃ (a b : Kd) (v : PyData), ds = [emb a, emb b, v] ∧ (a.ok = true ∧ a.dep ≤ 40) ∧ (b.ok = true ∧ b.dep ≤ 40) ∧
  ((∃ c : Chain, v = .list (embC c) ∧ Val c ∧ c.length ≤ 1000 ∧ r = .dat (.bool (isCh a b c))) ∨ (∃ es, v = .tuple es ∧ r = .dat (.bool false)) ∨ (v = .none ∧ False))
theorem ok_law_is_chain (G : Mg K mg) (C_law_along : Cal P w K mg base 226 "_law_along" ["_law_value"] (spR K r_law_along)) (F : Fun K "_law_is_chain" "_law_is_chain" st_law_is_chain f fd) : FnOk P w K mg base CX0 227 f fd ["_law_one", "_law_other", "_law_value"] (spR K r_law_is_chain) := by
  refine Fun.okR F sc_law_is_chain r_law_is_chain (by rintro _ _ ⟨_, _, _, rfl, _⟩; rfl) fun cdv A outer s H E hr ds r h => ?_
  have nd := sc_law_is_chain.nd
  have hu := hr.units
  obtain ⟨a, b, v, rfl, ⟨ha, da⟩, ⟨hb, db⟩, h⟩ := h
  rcases h with ⟨c, rfl, hv, hlen, rfl⟩ | ⟨es, rfl, rfl⟩ | ⟨_, h⟩
  · have hlay := lay_embC hv
    cases c with
    | nil => exact (ew_cons (es_ifT (et_bw (eb_andT (et_val (G.isi .list rfl rfl rfl (ev_var 2 rfl))) (eb_and1 (et_cmp (CmpR.to (cm_eqNil hu hlay) rfl) (ev_var 2 rfl) (EG.ev (el_lst ea_nil (small_len rfl))))))) (ew_one (es_ret (ev_cmp (CmpR.to (cm_eq hu (lay_emb ha) (lay_emb hb) (by rw [dep_emb]; omega)) (eqv_emb a b)) (ev_var 0 rfl) (ev_var 1 rfl)) rfl))))
    | cons t c =>
      refine ew_cons (es_ifF (et_bw (eb_andT (et_val (G.isi .list rfl rfl rfl (ev_var 2 rfl))) (eb_and1 (et_cmp (CmpR.to (cm_eqNil hu hlay) rfl) (ev_var 2 rfl) (EG.ev (el_lst ea_nil (small_len rfl))))))) (ew_nil ?_))
      have hko := kinds_ok hv
      obtain ⟨k, ks, hk⟩ := kinds_two (c := t :: c) (by simp)
      have hch : isCh a b (t :: c) = (linked (t :: c) && (decide (k = a) && decide ((k :: ks).getLastD bot = b))) := by unfold isCh; rw [hk]
      rw [hch]
      have hk0 := hko k (by rw [hk]; exact List.mem_cons_self)
      have hk1 := hko ((k :: ks).getLastD bot) (by rw [hk]; exact getLastD_mem (by simp))
      cases hl : linked (t :: c) with
      | false => exact (ew_cons (es_set 3 (eg_call C_law_along (hr.mono (by omega)) (ea_cons (ev_var 2 rfl) ea_nil) (.inr (.inl ⟨t :: c, rfl, hv, hlen, .inr hl, rfl⟩))) (ew_one (es_ret (ev_andF (ev_cmp (CmpR.to cm_notN rfl) (ev_var 3 rfl) ev_non)) rfl)) (nd := nd)))
      | true =>
        refine ew_cons (es_set 3 (r := .dat (.list (embK (k :: ks)))) (eg_call C_law_along (hr.mono (by omega)) (ea_cons (ev_var 2 rfl) ea_nil) (.inl ⟨t :: c, rfl, hv, hlen, by simp, hl, by rw [hk]⟩)) (EW.nrm [_, _, _, _] rfl ?_) (nd := nd))
        by_cases e1 : k = a
        · subst e1
          by_cases e2 : (k :: ks).getLastD bot = b
          · exact (ew_one (es_ret (ev_andT (ev_cmp (CmpR.to cm_notN rfl) (ev_var 3 rfl) ev_non) (ev_andT (ev_cmp (CmpR.to (cm_eq hu (lay_emb hk0.1) (lay_emb ha) (by simp only [dep_emb]; omega)) ((eqv_emb _ _).trans (decide_eq_true rfl))) (ev_ix (ev_var 3 rfl) ev_int (by exact at_zero _ _)) (ev_var 0 rfl)) (ev_one (ev_cmp (CmpR.to (cm_eq hu (lay_emb hk1.1) (lay_emb hb) (by simp only [dep_emb]; omega)) ((eqv_emb _ _).trans (decide_eq_true e2))) (ev_ix (ev_var 3 rfl) (ev_neg ev_int) (ix_lastK _ (by simp))) (ev_var 1 rfl))))) (by rw [decide_eq_true e2] <;> simp)))
          · exact (ew_one (es_ret (ev_andT (ev_cmp (CmpR.to cm_notN rfl) (ev_var 3 rfl) ev_non) (ev_andT (ev_cmp (CmpR.to (cm_eq hu (lay_emb hk0.1) (lay_emb ha) (by simp only [dep_emb]; omega)) ((eqv_emb _ _).trans (decide_eq_true rfl))) (ev_ix (ev_var 3 rfl) ev_int (by exact at_zero _ _)) (ev_var 0 rfl)) (ev_one (ev_cmp (CmpR.to (cm_eq hu (lay_emb hk1.1) (lay_emb hb) (by simp only [dep_emb]; omega)) ((eqv_emb _ _).trans (decide_eq_false e2))) (ev_ix (ev_var 3 rfl) (ev_neg ev_int) (ix_lastK _ (by simp))) (ev_var 1 rfl))))) (by rw [decide_eq_false e2] <;> simp)))
        · exact (ew_one (es_ret (ev_andT (ev_cmp (CmpR.to cm_notN rfl) (ev_var 3 rfl) ev_non) (ev_andF (ev_cmp (CmpR.to (cm_eq hu (lay_emb hk0.1) (lay_emb ha) (by simp only [dep_emb]; omega)) ((eqv_emb _ _).trans (decide_eq_false e1))) (ev_ix (ev_var 3 rfl) ev_int (by exact at_zero _ _)) (ev_var 0 rfl)))) (by rw [decide_eq_false e1] <;> simp)))
  · exact (ew_cons (es_ifF (et_bw (eb_andF (et_val (G.isi .list rfl rfl rfl (ev_var 2 rfl))))) (ew_nil (ew_cons (es_set 3 (eg_call C_law_along (hr.mono (by omega)) (ea_cons (ev_var 2 rfl) ea_nil) (.inr (.inr ⟨_, rfl, rfl⟩))) (ew_one (es_ret (ev_andF (ev_cmp (CmpR.to cm_notN rfl) (ev_var 3 rfl) ev_non)) rfl)) (nd := nd))))))
  · exact h.elim
end
end PU
namespace PU
open PySem PySem.Spec PyProof.Rows L2 StX MM

def loosen : Kd → Kd
  | .ov (.un a b) c => .un a (.ov b c)
  | .ov (.ov a b) c => .ov a (.th c b)
  | .un a (.ov b c) => .ov (.un a b) c
  | k => k
def notPl : Kd → Bool
  | .pl _ => false
  | _ => true

section
variable {P : Program} {w : World} {K : PySem.W.Frag} {mg : Str → Option Value} {base : Heap} {f : Addr} {fd : FuncData}

/-! ### _law_loosened -/
abbrev st_law_loosened : Stmt := top 83
theorem sc_law_loosened : FnScope ["_law_kind_here", "_law_word_here", "_law_one", "_law_other"] ["_law_kind_here"] (defScope st_law_loosened) := ⟨rfl, rfl, rfl, by decide +kernel, rfl, by decide +kernel, by decide +kernel⟩
def r_law_loosened : List PyData → Res → Prop := fun ds r => ∃ k : Kd, ds = [emb k] ∧ notPl k = true ∧ r = .dat (emb (loosen k))
theorem ok_law_loosened (G : Mg K mg) (F : Fun K "_law_loosened" "_law_loosened" st_law_loosened f fd) : FnOk P w K mg base CX0 1 f fd ["_law_kind_here"] (spR K r_law_loosened) := by
  refine Fun.okR F sc_law_loosened r_law_loosened (by rintro _ _ ⟨_, rfl, _⟩; rfl) fun cdv A outer s H E hr ds r h => ?_
  have nd := sc_law_loosened.nd
  obtain ⟨k, rfl, hk, rfl⟩ := h
  cases k with
  | pl w => cases hk
  | ov x c =>
    cases x with
    | pl w => exact (ew_cons (es_unp3 1 2 3 (ev_var 0 rfl) (EW.nrm [_, _, _, _] rfl
  (ew_cons (es_ifF (et_bw (eb_andT (et_cmp (CmpR.to cm_eqS (by decide +kernel)) (ev_var 1 rfl) ev_str) (eb_andF (et_val (G.isi .tuple rfl rfl rfl (ev_var 2 rfl)))))) (ew_nil 
  (ew_cons (es_ifF (et_bw (eb_andF (et_cmp (CmpR.to cm_eqS (by decide +kernel)) (ev_var 1 rfl) ev_str))) (ew_nil 
  (ew_cons (es_ifF (et_bw (eb_andT (et_cmp (CmpR.to cm_eqS (by decide +kernel)) (ev_var 1 rfl) ev_str) (eb_andF (et_val (G.isi .tuple rfl rfl rfl (ev_var 2 rfl)))))) (ew_nil 
  (ew_one (es_ret (ev_var 0 rfl) rfl)))))))))))) (nd := nd)))
    | ov a b => exact (ew_cons (es_unp3 1 2 3 (ev_var 0 rfl) (EW.nrm [_, _, _, _] rfl
  (ew_cons (es_ifF (et_bw (eb_andT (et_cmp (CmpR.to cm_eqS (by decide +kernel)) (ev_var 1 rfl) ev_str) (eb_andT (et_val (G.isi .tuple rfl rfl rfl (ev_var 2 rfl))) (eb_and1 (et_cmp (CmpR.to cm_eqS (by decide +kernel)) (ev_ix (ev_var 2 rfl) ev_int rfl) ev_str))))) (ew_nil 
  (ew_cons (es_ifF (et_bw (eb_andF (et_cmp (CmpR.to cm_eqS (by decide +kernel)) (ev_var 1 rfl) ev_str))) (ew_nil 
  (ew_cons (es_ifT (et_bw (eb_andT (et_cmp (CmpR.to cm_eqS (by decide +kernel)) (ev_var 1 rfl) ev_str) (eb_andT (et_val (G.isi .tuple rfl rfl rfl (ev_var 2 rfl))) (eb_and1 (et_cmp (CmpR.to cm_eqS (by decide +kernel)) (ev_ix (ev_var 2 rfl) ev_int rfl) ev_str))))) (ew_one (es_ret (ev_tup (ea_cons ev_str (ea_cons (ev_ix (ev_var 2 rfl) ev_int rfl) (ea_cons (ev_tup (ea_cons ev_str (ea_cons (ev_var 3 rfl) (ea_cons (ev_ix (ev_var 2 rfl) ev_int rfl) ea_nil)))) ea_nil)))) rfl))))))))))) (nd := nd)))
    | un a b => exact (ew_cons (es_unp3 1 2 3 (ev_var 0 rfl) (EW.nrm [_, _, _, _] rfl
  (ew_cons (es_ifT (et_bw (eb_andT (et_cmp (CmpR.to cm_eqS (by decide +kernel)) (ev_var 1 rfl) ev_str) (eb_andT (et_val (G.isi .tuple rfl rfl rfl (ev_var 2 rfl))) (eb_and1 (et_cmp (CmpR.to cm_eqS (by decide +kernel)) (ev_ix (ev_var 2 rfl) ev_int rfl) ev_str))))) (ew_one (es_ret (ev_tup (ea_cons ev_str (ea_cons (ev_ix (ev_var 2 rfl) ev_int rfl) (ea_cons (ev_tup (ea_cons ev_str (ea_cons (ev_ix (ev_var 2 rfl) ev_int rfl) (ea_cons (ev_var 3 rfl) ea_nil)))) ea_nil)))) rfl))))) (nd := nd)))
    | th a b => exact (ew_cons (es_unp3 1 2 3 (ev_var 0 rfl) (EW.nrm [_, _, _, _] rfl
  (ew_cons (es_ifF (et_bw (eb_andT (et_cmp (CmpR.to cm_eqS (by decide +kernel)) (ev_var 1 rfl) ev_str) (eb_andT (et_val (G.isi .tuple rfl rfl rfl (ev_var 2 rfl))) (eb_and1 (et_cmp (CmpR.to cm_eqS (by decide +kernel)) (ev_ix (ev_var 2 rfl) ev_int rfl) ev_str))))) (ew_nil 
  (ew_cons (es_ifF (et_bw (eb_andF (et_cmp (CmpR.to cm_eqS (by decide +kernel)) (ev_var 1 rfl) ev_str))) (ew_nil 
  (ew_cons (es_ifF (et_bw (eb_andT (et_cmp (CmpR.to cm_eqS (by decide +kernel)) (ev_var 1 rfl) ev_str) (eb_andT (et_val (G.isi .tuple rfl rfl rfl (ev_var 2 rfl))) (eb_and1 (et_cmp (CmpR.to cm_eqS (by decide +kernel)) (ev_ix (ev_var 2 rfl) ev_int rfl) ev_str))))) (ew_nil 
  (ew_one (es_ret (ev_var 0 rfl) rfl)))))))))))) (nd := nd)))
  | un a y =>
    cases y with
    | pl w => exact (ew_cons (es_unp3 1 2 3 (ev_var 0 rfl) (EW.nrm [_, _, _, _] rfl
  (ew_cons (es_ifF (et_bw (eb_andF (et_cmp (CmpR.to cm_eqS (by decide +kernel)) (ev_var 1 rfl) ev_str))) (ew_nil 
  (ew_cons (es_ifF (et_bw (eb_andT (et_cmp (CmpR.to cm_eqS (by decide +kernel)) (ev_var 1 rfl) ev_str) (eb_andF (et_val (G.isi .tuple rfl rfl rfl (ev_var 3 rfl)))))) (ew_nil 
  (ew_cons (es_ifF (et_bw (eb_andF (et_cmp (CmpR.to cm_eqS (by decide +kernel)) (ev_var 1 rfl) ev_str))) (ew_nil 
  (ew_one (es_ret (ev_var 0 rfl) rfl)))))))))))) (nd := nd)))
    | ov b c => exact (ew_cons (es_unp3 1 2 3 (ev_var 0 rfl) (EW.nrm [_, _, _, _] rfl
  (ew_cons (es_ifF (et_bw (eb_andF (et_cmp (CmpR.to cm_eqS (by decide +kernel)) (ev_var 1 rfl) ev_str))) (ew_nil 
  (ew_cons (es_ifT (et_bw (eb_andT (et_cmp (CmpR.to cm_eqS (by decide +kernel)) (ev_var 1 rfl) ev_str) (eb_andT (et_val (G.isi .tuple rfl rfl rfl (ev_var 3 rfl))) (eb_and1 (et_cmp (CmpR.to cm_eqS (by decide +kernel)) (ev_ix (ev_var 3 rfl) ev_int rfl) ev_str))))) (ew_one (es_ret (ev_tup (ea_cons ev_str (ea_cons (ev_tup (ea_cons ev_str (ea_cons (ev_var 2 rfl) (ea_cons (ev_ix (ev_var 3 rfl) ev_int rfl) ea_nil)))) (ea_cons (ev_ix (ev_var 3 rfl) ev_int rfl) ea_nil)))) rfl)))))))) (nd := nd)))
    | un b c => exact (ew_cons (es_unp3 1 2 3 (ev_var 0 rfl) (EW.nrm [_, _, _, _] rfl
  (ew_cons (es_ifF (et_bw (eb_andF (et_cmp (CmpR.to cm_eqS (by decide +kernel)) (ev_var 1 rfl) ev_str))) (ew_nil 
  (ew_cons (es_ifF (et_bw (eb_andT (et_cmp (CmpR.to cm_eqS (by decide +kernel)) (ev_var 1 rfl) ev_str) (eb_andT (et_val (G.isi .tuple rfl rfl rfl (ev_var 3 rfl))) (eb_and1 (et_cmp (CmpR.to cm_eqS (by decide +kernel)) (ev_ix (ev_var 3 rfl) ev_int rfl) ev_str))))) (ew_nil 
  (ew_cons (es_ifF (et_bw (eb_andF (et_cmp (CmpR.to cm_eqS (by decide +kernel)) (ev_var 1 rfl) ev_str))) (ew_nil 
  (ew_one (es_ret (ev_var 0 rfl) rfl)))))))))))) (nd := nd)))
    | th b c => exact (ew_cons (es_unp3 1 2 3 (ev_var 0 rfl) (EW.nrm [_, _, _, _] rfl
  (ew_cons (es_ifF (et_bw (eb_andF (et_cmp (CmpR.to cm_eqS (by decide +kernel)) (ev_var 1 rfl) ev_str))) (ew_nil 
  (ew_cons (es_ifF (et_bw (eb_andT (et_cmp (CmpR.to cm_eqS (by decide +kernel)) (ev_var 1 rfl) ev_str) (eb_andT (et_val (G.isi .tuple rfl rfl rfl (ev_var 3 rfl))) (eb_and1 (et_cmp (CmpR.to cm_eqS (by decide +kernel)) (ev_ix (ev_var 3 rfl) ev_int rfl) ev_str))))) (ew_nil 
  (ew_cons (es_ifF (et_bw (eb_andF (et_cmp (CmpR.to cm_eqS (by decide +kernel)) (ev_var 1 rfl) ev_str))) (ew_nil 
  (ew_one (es_ret (ev_var 0 rfl) rfl)))))))))))) (nd := nd)))
  | th a b => exact (ew_cons (es_unp3 1 2 3 (ev_var 0 rfl) (EW.nrm [_, _, _, _] rfl
  (ew_cons (es_ifF (et_bw (eb_andF (et_cmp (CmpR.to cm_eqS (by decide +kernel)) (ev_var 1 rfl) ev_str))) (ew_nil 
  (ew_cons (es_ifF (et_bw (eb_andF (et_cmp (CmpR.to cm_eqS (by decide +kernel)) (ev_var 1 rfl) ev_str))) (ew_nil 
  (ew_cons (es_ifF (et_bw (eb_andF (et_cmp (CmpR.to cm_eqS (by decide +kernel)) (ev_var 1 rfl) ev_str))) (ew_nil 
  (ew_one (es_ret (ev_var 0 rfl) rfl)))))))))))) (nd := nd)))
end
end PU
namespace PU
open PySem PySem.Spec PyProof.Rows L2 StX MM

def isUp (k : Kd) (z : PyData) : Prop := ∃ (s : MM.Step) (k' : Kd), z = embS s ∧ SOk (max k.dep 1 + 3) 6 s k k'
theorem dep1 {k : Kd} (h : k.sg ≤ 1) : k.dep ≤ 1 := Nat.le_trans (dep_sg k) h
theorem sok_up0 {a b : Kd} (ha : a.ok = true) (hb : b.ok = true) (db : b.dep ≤ 1) : isUp a (embS (behindUp a b)) := ⟨_, _, rfl, sok_behind ha hb (by omega) (by omega)⟩
theorem sok_up1 {a b : Kd} (ha : a.ok = true) (hb : b.ok = true) (db : b.dep ≤ 1) : isUp a (embS (aheadUp a b)) := ⟨_, _, rfl, sok_ahead ha hb (by omega) (by omega)⟩
theorem sok_up2 {a b : Kd} (ha : a.ok = true) (hb : b.ok = true) (db : b.dep ≤ 1) : isUp a (embS (true, .om (.uu (.is a) (.is b)))) :=
  ⟨_, .ov b (.un a b), rfl, show Tl _ 6 (.om (.uu (.is a) (.is b))) [a] _ from
    .om (r := [a]) (B := .un a b) (.uu (z := [a]) (r := []) (A := b) (B := a) (tl_is ha (by omega) (by omega)) (tl_is hb (by omega) (by omega)) (by simp only [Kd.dep]; omega) (Nat.le_of_ble_eq_true rfl)) (by simp) (by simp only [Kd.dep]; omega)⟩
theorem sok_up3 {a b : Kd} (ha : a.ok = true) (hb : b.ok = true) (db : b.dep ≤ 1) : isUp a (embS (true, .um (.ou (.is a) (.is b)))) :=
  ⟨_, .un (.ov b a) b, rfl, show Tl _ 6 (.um (.ou (.is a) (.is b))) [a] _ from
    .um (r := [a]) (B := .ov b a) (.ou (z := [a]) (r := []) (A := b) (B := a) (tl_is ha (by omega) (by omega)) (tl_is hb (by omega) (by omega)) (by simp only [Kd.dep]; omega) (Nat.le_of_ble_eq_true rfl)) (by simp) (by simp only [Kd.dep]; omega)⟩
theorem sok_up4 {a b : Kd} (ha : a.ok = true) (hb : b.ok = true) (db : b.dep ≤ 1) : isUp a (embS (false, .tu (.ou (.is b) (.is a)))) :=
  ⟨_, .th (.ov a b) b, rfl, show Tl _ 6 (.tu (.ou (.is b) (.is a))) [_] a from
    .tu (r := []) (A := .ov a b) (B := b) (.ou (z := [b]) (r := []) (A := a) (B := b) (tl_is hb (by omega) (by omega)) (tl_is ha (by omega) (by omega)) (by simp only [Kd.dep]; omega) (Nat.le_of_ble_eq_true rfl)) (by simp only [Kd.dep]; omega)⟩
def isK1 (z : PyData) : Prop := ∃ k : Kd, z = emb k ∧ k.ok = true ∧ k.sg ≤ 1

section
variable {P : Program} {w : World} {K : PySem.W.Frag} {mg : Str → Option Value} {base : Heap} {f : Addr} {fd : FuncData}

/-! ### _law_up_step -/
abbrev st_law_up_step : Stmt := top 85
theorem sc_law_up_step : FnScope ["_law_purse_here", "_law_plains_here", "_law_kind_here", "_law_late", "_law_way"] ["_law_purse_here", "_law_plains_here", "_law_kind_here"] (defScope st_law_up_step) := ⟨rfl, rfl, rfl, by decide +kernel, rfl, by decide +kernel, by decide +kernel⟩
def r_law_up_step : List PyData → (PyData → Prop) → Prop := fun ds B => ∃ (pl : PyData) (k : Kd), ds = [pl, emb k] ∧ isP pl ∧ k.ok = true ∧ ∀ z, isUp k z → B z
theorem ok_law_up_step (G : Mg K mg) (C_law_draw : Cal P w K mg base 2 "_law_draw" ["_law_purse_here", "_law_many"] (spC K 1 r_law_draw)) (C_law_kind : Cal P w K mg base 6 "_law_kind" ["_law_purse_here", "_law_plains_here", "_law_signs_here"] (spC K 13 (r_law_kind 2))) (F : Fun K "_law_up_step" "_law_up_step" st_law_up_step f fd) : FnOk P w K mg base CX0 7 f fd ["_law_purse_here", "_law_plains_here", "_law_kind_here"] (spC K 15 r_law_up_step) := by
  refine Fun.okC F sc_law_up_step 15 r_law_up_step (by rintro _ _ ⟨_, _, rfl, _⟩; rfl) (by decide) fun cdv A outer s H E hr ds B n h hcap => ?_
  have nd := sc_law_up_step.nd
  obtain ⟨pl, k, rfl, hpl, hk, hB⟩ := h
  show EW _ _ [.purse, .dat pl, .dat (emb k), .unk, .unk] _ _ _
  refine ew_cons (es_parC 0 3 4 (ec_call (A := isK1) C_law_kind (hr.mono (by omega)) (eac_cons (ec_of (ev_var 1 rfl)) (eac_cons (ec_draw C_law_draw (hr.mono (by omega)) ev_int (by decide) (by decide)) eac_nil)) (fun ds h => ?_)) (ec_draw C_law_draw (hr.mono (by omega)) ev_int (by decide) (by decide)) (fun d e hd he => ?_) (by omega) (nd := nd))
  · obtain ⟨z, t, rfl, rfl, z2, t2, rfl, ⟨j, rfl, j0, j1⟩, rfl⟩ := h
    obtain ⟨m, rfl⟩ : ∃ m : Nat, j = (m : Int) := ⟨j.toNat, by omega⟩
    exact ⟨_, m, rfl, hpl, by omega, fun z ⟨a, e, h1, h2⟩ => ⟨a, e, h1, by omega⟩⟩
  obtain ⟨a, rfl, ha, sa⟩ := hd
  obtain ⟨j, rfl, j0, j1⟩ := he
  refine ⟨.inr ⟨nl_emb a, rfl⟩, EW.nrm [_, _, _, _, _] rfl ?_⟩
  have hj : j = 0 ∨ j = 1 ∨ j = 2 ∨ j = 3 ∨ j = 4 := by omega
  rcases hj with rfl | rfl | rfl | rfl | rfl
  · exact (ew_cons (es_ifT (et_cmp (CmpR.to cm_eqI rfl) (ev_var 4 rfl) ev_int) (ew_one (es_ret (EV.to (d' := embS (behindUp k a)) (ev_tup (ea_cons ev_str (ea_cons (ev_tup (ea_cons ev_str (ea_cons (ev_tup (ea_cons ev_str (ea_cons (ev_tup (ea_cons ev_str (ea_cons (ev_var 2 rfl) ea_nil))) (ea_cons (ev_tup (ea_cons ev_str (ea_cons (ev_var 3 rfl) ea_nil))) ea_nil)))) ea_nil))) ea_nil))) rfl) ⟨⟨_, rfl, hB _ (sok_up0 hk ha (dep1 sa))⟩, _, rfl, by omega⟩))))
  · exact (ew_cons (es_ifF (et_cmp (CmpR.to cm_eqI rfl) (ev_var 4 rfl) ev_int) (ew_nil (ew_cons (es_ifT (et_cmp (CmpR.to cm_eqI rfl) (ev_var 4 rfl) ev_int) (ew_one (es_ret (EV.to (d' := embS (aheadUp k a)) (ev_tup (ea_cons ev_str (ea_cons (ev_tup (ea_cons ev_str (ea_cons (ev_tup (ea_cons ev_str (ea_cons (ev_tup (ea_cons ev_str (ea_cons (ev_var 3 rfl) ea_nil))) (ea_cons (ev_tup (ea_cons ev_str (ea_cons (ev_var 2 rfl) ea_nil))) ea_nil)))) ea_nil))) ea_nil))) rfl) ⟨⟨_, rfl, hB _ (sok_up1 hk ha (dep1 sa))⟩, _, rfl, by omega⟩)))))))
  · exact (ew_cons (es_ifF (et_cmp (CmpR.to cm_eqI rfl) (ev_var 4 rfl) ev_int) (ew_nil (ew_cons (es_ifF (et_cmp (CmpR.to cm_eqI rfl) (ev_var 4 rfl) ev_int) (ew_nil (ew_cons (es_ifT (et_cmp (CmpR.to cm_eqI rfl) (ev_var 4 rfl) ev_int) (ew_one (es_ret (EV.to (d' := embS ((true, .om (.uu (.is k) (.is a))))) (ev_tup (ea_cons ev_str (ea_cons (ev_tup (ea_cons ev_str (ea_cons (ev_tup (ea_cons ev_str (ea_cons ev_int (ea_cons (ev_tup (ea_cons ev_str (ea_cons (ev_var 2 rfl) ea_nil))) (ea_cons (ev_tup (ea_cons ev_str (ea_cons (ev_var 3 rfl) ea_nil))) ea_nil))))) ea_nil))) ea_nil))) rfl) ⟨⟨_, rfl, hB _ (sok_up2 hk ha (dep1 sa))⟩, _, rfl, by omega⟩))))))))))
  · exact (ew_cons (es_ifF (et_cmp (CmpR.to cm_eqI rfl) (ev_var 4 rfl) ev_int) (ew_nil (ew_cons (es_ifF (et_cmp (CmpR.to cm_eqI rfl) (ev_var 4 rfl) ev_int) (ew_nil (ew_cons (es_ifF (et_cmp (CmpR.to cm_eqI rfl) (ev_var 4 rfl) ev_int) (ew_nil (ew_cons (es_ifT (et_cmp (CmpR.to cm_eqI rfl) (ev_var 4 rfl) ev_int) (ew_one (es_ret (EV.to (d' := embS ((true, .um (.ou (.is k) (.is a))))) (ev_tup (ea_cons ev_str (ea_cons (ev_tup (ea_cons ev_str (ea_cons (ev_tup (ea_cons ev_str (ea_cons ev_int (ea_cons (ev_tup (ea_cons ev_str (ea_cons (ev_var 2 rfl) ea_nil))) (ea_cons (ev_tup (ea_cons ev_str (ea_cons (ev_var 3 rfl) ea_nil))) ea_nil))))) ea_nil))) ea_nil))) rfl) ⟨⟨_, rfl, hB _ (sok_up3 hk ha (dep1 sa))⟩, _, rfl, by omega⟩)))))))))))))
  · exact (ew_cons (es_ifF (et_cmp (CmpR.to cm_eqI rfl) (ev_var 4 rfl) ev_int) (ew_nil (ew_cons (es_ifF (et_cmp (CmpR.to cm_eqI rfl) (ev_var 4 rfl) ev_int) (ew_nil (ew_cons (es_ifF (et_cmp (CmpR.to cm_eqI rfl) (ev_var 4 rfl) ev_int) (ew_nil (ew_cons (es_ifF (et_cmp (CmpR.to cm_eqI rfl) (ev_var 4 rfl) ev_int) (ew_nil (ew_one (es_ret (EV.to (d' := embS ((false, .tu (.ou (.is a) (.is k))))) (ev_tup (ea_cons ev_str (ea_cons (ev_tup (ea_cons ev_str (ea_cons ev_int (ea_cons (ev_tup (ea_cons ev_str (ea_cons ev_int (ea_cons (ev_tup (ea_cons ev_str (ea_cons (ev_var 3 rfl) ea_nil))) (ea_cons (ev_tup (ea_cons ev_str (ea_cons (ev_var 2 rfl) ea_nil))) ea_nil))))) ea_nil)))) ea_nil))) rfl) ⟨⟨_, rfl, hB _ (sok_up4 hk ha (dep1 sa))⟩, _, rfl, by omega⟩))))))))))))))
end
end PU
namespace PU
open PySem PySem.Spec PyProof.Rows L2 StX MM
section
variable {X : Cx} {δ : PEnv} {b : Expr} {pos p1 p2 p3 p4 p5 : Pos} {j1 j2 j3 j4 : Nat}
/-- {k1: v1, k2: v2}[b] -/
theorem ev_dict2 {k1 v1 k2 v2 z v : Str} (hu : X.A.units + 1 < cLine) (hb : EV X b δ (.str z)) (hv : valV (mergeK [] [(Sum.inr k1, V.str v1), (Sum.inr k2, V.str v2)]) (Sum.inr z) = some (.str v)) (hs : NoSl b := by exact fun _ _ => rfl) :
    EV X (.Subscript (.Dict [some (.Constant (.str k1) j1 p1), some (.Constant (.str k2) j2 p2)] [.Constant (.str v1) j3 p3, .Constant (.str v2) j4 p4] p5) b pos) δ (.str v) := fun S σ H Q ok q => by
  refine sE_of (pe_dget hu (pe_disp (pps_cons pe_str pe_str (pps_cons pe_str pe_str pps_nil)) rfl rfl (by simp) (show 2 ≤ 15 by omega)) pe_s hs) ?_
  intro p hp
  have n0 := same_new hp (.dK [])
  refine ⟨upd_same, [(Sum.inr k1, V.str v1), (Sum.inr k2, V.str v2)], rfl, (show 2 ≤ 15 by omega), ?_⟩
  have n1 : Same H (upd (upd H p (.dK [])) p (.dK (mergeK [] [(Sum.inr k1, V.str v1), (Sum.inr k2, V.str v2)]))) := fun c u hc => by
    rw [upd_ne (ne_of_none hc hp)]; exact n0 _ _ hc
  refine hb S σ _ _ (ok.m n1) fun w H2 s2 g2 => ?_
  cases (show Rep X.K (hide S H2) w (.str z) from g2)
  have hd := s2 _ _ (upd_same (H := upd H p (.dK [])) (a := p))
  exact ⟨p, .str v, rfl, .inl ⟨_, Sum.inr z, .inl hd, rfl, hv.symm⟩, q _ _ (n1.trans s2) (.str v)⟩
end
end PU
namespace PU
open PySem PySem.Spec PyProof.Rows L2 StX MM

theorem hr1 {k : Nat} {A : Around} (r : Room k A) : A.units + 1 < cLine := by have := r.un; omega
theorem vkback : valV (mergeK [] [(Sum.inr (Str.ofString "on"), V.str (Str.ofString "back")), (Sum.inr (Str.ofString "back"), V.str (Str.ofString "on"))]) (Sum.inr (Str.ofString "on")) = some (.str (Str.ofString "back")) := by rfl
theorem vkon : valV (mergeK [] [(Sum.inr (Str.ofString "on"), V.str (Str.ofString "back")), (Sum.inr (Str.ofString "back"), V.str (Str.ofString "on"))]) (Sum.inr (Str.ofString "back")) = some (.str (Str.ofString "on")) := by rfl
section
variable {P : Program} {w : World} {K : PySem.W.Frag} {mg : Str → Option Value} {base : Heap} {f : Addr} {fd : FuncData}

/-! ### _law_back_chain -/
abbrev st_law_back_chain : Stmt := top 84
theorem sc_law_back_chain : FnScope ["_law_chain_here", "_law_way", "_law_derivation"] ["_law_chain_here"] (defScope st_law_back_chain) := ⟨rfl, rfl, rfl, by decide +kernel, rfl, by decide +kernel, by decide +kernel⟩
def r_law_back_chain : List PyData → Res → Prop := fun ds r => ∃ c : Chain, ds = [.list (embC c)] ∧ c.length ≤ 1000 ∧ r = .fresh (embC (turned c))
theorem ok_law_back_chain (G : Mg K mg)  (F : Fun K "_law_back_chain" "_law_back_chain" st_law_back_chain f fd) : FnOk P w K mg base CX0 1 f fd ["_law_chain_here"] (spR K r_law_back_chain) := by
  refine Fun.okR F sc_law_back_chain r_law_back_chain (by rintro _ _ ⟨_, rfl, _⟩; rfl) fun cdv A outer s H E hr ds r h => ?_
  have nd := sc_law_back_chain.nd
  obtain ⟨c, rfl, hlen, rfl⟩ := h
  exact (ew_one (es_ret (EG.cast (el_lcT2 (l := c.reverse) (g1 := fun s => .str (way s.1)) (g2 := fun s => embD s.2) (f := fun s => embS (flip s)) 1 2 nd (ei_list (EG.ev (el_rev (ev_var 0 rfl) (embC_rev c)))) (show blkC ["_law_chain_here", "_law_way", "_law_derivation"] (defScope st_law_back_chain) _ _ = true by decide +kernel) (fun z hz => by
    obtain ⟨u, d⟩ := z
    cases u with
    | true => exact fun _ _ _ _ _ => EV.to (ev_tup (ea_cons (ev_dict2 (v := "back") (hr1 hr) (ev_var 1 rfl) vkback) (ea_cons (ev_var 2 rfl) ea_nil))) rfl
    | false => exact fun _ _ _ _ _ => EV.to (ev_tup (ea_cons (ev_dict2 (v := "on") (hr1 hr) (ev_var 1 rfl) vkon) (ea_cons (ev_var 2 rfl) ea_nil))) rfl) (le_line (by rw [List.length_reverse]; omega))
    (fun _ _ _ _ _ => pg_tup rfl (pgs_cons (pg_name nd rfl (Or.inl rfl)) (pgs_cons (pg_name nd rfl (Or.inl rfl)) pgs_nil)))) (congrArg Res.fresh (turned_map c))) rfl))
end
end PU
namespace PU
open PySem PySem.Spec PyProof.Rows L2 StX MM

mutual
def noD : PyData → Bool
  | .dict _ => false
  | .list ds => noDs ds
  | .tuple ds => noDs ds
  | _ => true
def noDs : List PyData → Bool
  | [] => true
  | d :: ds => noD d && noDs ds
end
theorem noDs_mem : ∀ {ds : List PyData}, noDs ds = true → ∀ d ∈ ds, noD d = true
  | d :: ds, h, x, hx => by
    have h' : (noD d && noDs ds) = true := h
    rw [Bool.and_eq_true] at h'
    rcases List.mem_cons.mp hx with e | hx
    · subst e; exact h'.1
    · exact noDs_mem h'.2 x hx
theorem depAll_mem : ∀ {ds : List PyData} {d : PyData}, d ∈ ds → d.depth ≤ PyData.depthAll ds
  | x :: ds, d, hx => by
    show d.depth ≤ max x.depth (PyData.depthAll ds)
    rcases List.mem_cons.mp hx with e | hx
    · subst e; exact Nat.le_max_left _ _
    · exact Nat.le_trans (depAll_mem hx) (Nat.le_max_right _ _)

section
variable {P : Program} {w : World} {K : PySem.W.Frag} {mg : Str → Option Value} {base : Heap} {f : Addr} {fd : FuncData}

/-! ### _law_same -/
abbrev st_law_same : Stmt := top 64
theorem sc_law_same : FnScope ["_law_thing", "_law_key", "_law_item"] ["_law_thing"] (defScope st_law_same) := ⟨rfl, rfl, rfl, by decide +kernel, rfl, by decide +kernel, by decide +kernel⟩
mutual
def big : PyData → Bool
  | .list ds => decide (ds.length ≤ 1000) && bigAll ds
  | .tuple ds => decide (ds.length ≤ 1000) && bigAll ds
  | _ => true
def bigAll : List PyData → Bool
  | [] => true
  | d :: ds => big d && bigAll ds
end
theorem bigs : ∀ {ds : List PyData}, bigAll ds = true → ∀ d ∈ ds, True ∧ big d = true
  | d :: ds, h, x, hx => by
    have h' : (big d && bigAll ds) = true := h
    rw [Bool.and_eq_true] at h'
    rcases List.mem_cons.mp hx with e | hx
    · subst e; exact ⟨trivial, h'.1⟩
    · exact bigs h'.2 x hx
def r_law_same (n : Nat) : List PyData → Res → Prop := fun ds r => ∃ d : PyData, ds = [d] ∧ noD d = true ∧ d.depth ≤ n ∧ big d = true ∧ r = .dat d
theorem ok_law_same (G : Mg K mg) (F : Fun K "_law_same" "_law_same" st_law_same f fd) (bF : Binds K fd ["_law_thing"] []) (mF : mg "_law_same" = some (.ref f)) :
    ∀ n : Nat, FnOk P w K mg base CX0 (n + 1) f fd ["_law_thing"] (spR K (r_law_same n)) := by
  have key : ∀ n : Nat, (∀ m, n = m + 1 → Cal P w K mg base n "_law_same" ["_law_thing"] (spR K (r_law_same m))) → FnOk P w K mg base CX0 (n + 1) f fd ["_law_thing"] (spR K (r_law_same n)) := by
    intro n ih
    refine Fun.okR F sc_law_same (r_law_same n) (by rintro _ _ ⟨_, rfl, _⟩; rfl) fun cdv A outer s H E hr ds r h => ?_
    have nd := sc_law_same.nd
    obtain ⟨d, rfl, hn, hd, hb, rfl⟩ := h
    have flat : ∀ d : PyData, (d = .none ∨ (∃ b, d = .bool b) ∨ (∃ i, d = .int i) ∨ ∃ z, d = .str z) → EW (cxOf CX0 P w K mg base ["_law_thing", "_law_key", "_law_item"] "_law_same" (defScope st_law_same) f cdv A outer s H E).nox (defBody st_law_same) (startS ["_law_thing", "_law_key", "_law_item"] [d]) .none (fun _ _ => Res.dat d = .dat .none) (fun r' _ => r' = .dat d) := fun d hd => by
      rcases hd with rfl | ⟨b, rfl⟩ | ⟨i, rfl⟩ | ⟨z, rfl⟩ <;>
        exact (ew_cons (es_ifF (et_val (G.isi .dict rfl rfl rfl (ev_var 0 rfl))) (ew_nil (ew_cons (es_ifF (et_val (G.isi .list rfl rfl rfl (ev_var 0 rfl))) (ew_nil (ew_one (es_ret (eg_ifF (et_val (G.isi .tuple rfl rfl rfl (ev_var 0 rfl))) (ev_var 0 rfl)) rfl))))))))
    cases d with
    | none => exact flat _ (.inl rfl)
    | bool b => exact flat _ (.inr (.inl ⟨b, rfl⟩))
    | int i => exact flat _ (.inr (.inr (.inl ⟨i, rfl⟩)))
    | str z => exact flat _ (.inr (.inr (.inr ⟨z, rfl⟩)))
    | dict _ => cases hn
    | list es =>
      have hn : noDs es = true := hn
      have hd : PyData.depthAll es + 1 ≤ n := hd
      have hb : (decide (es.length ≤ 1000) && bigAll es) = true := hb
      rw [Bool.and_eq_true, decide_eq_true_iff] at hb
      obtain ⟨hl, hb⟩ := hb
      cases n with
      | zero => omega
      | succ m =>
        have C_law_same := ih m rfl
        exact (ew_cons (es_ifF (et_val (G.isi .dict rfl rfl rfl (ev_var 0 rfl))) (ew_nil (ew_cons (es_ifT (et_val (G.isi .list rfl rfl rfl (ev_var 0 rfl))) (ew_one (es_ret (EG.ev (EG.cast (r' := .fresh es) (el_lc 2 (f := fun d => d) nd (ei_list (ev_var 0 rfl)) (show blkC ["_law_thing", "_law_key", "_law_item"] (defScope st_law_same) _ _ = true by decide +kernel) (fun d hd => fun _ _ _ _ _ => eg_call C_law_same (hr.mono (by omega)) (ea_cons (ev_var 2 rfl) ea_nil) ⟨d, rfl, noDs_mem hn d hd, by have := depAll_mem hd; omega, (bigs hb d hd).2, rfl⟩) (le_line (by omega))) (congrArg Res.fresh (List.map_id _)))) rfl)))))))
    | tuple es =>
      have hn : noDs es = true := hn
      have hd : PyData.depthAll es + 1 ≤ n := hd
      have hb : (decide (es.length ≤ 1000) && bigAll es) = true := hb
      rw [Bool.and_eq_true, decide_eq_true_iff] at hb
      obtain ⟨hl, hb⟩ := hb
      cases n with
      | zero => omega
      | succ m =>
        have C_law_same := ih m rfl
        exact (ew_cons (es_ifF (et_val (G.isi .dict rfl rfl rfl (ev_var 0 rfl))) (ew_nil (ew_cons (es_ifF (et_val (G.isi .list rfl rfl rfl (ev_var 0 rfl))) (ew_nil (ew_one (es_ret (eg_ifT (et_val (G.isi .tuple rfl rfl rfl (ev_var 0 rfl))) (eg_callTy cr_tupleL (ea_cons (EG.ev (EG.cast (r' := .fresh es) (el_lc 2 (f := fun d => d) nd (ei_tup (ev_var 0 rfl)) (show blkC ["_law_thing", "_law_key", "_law_item"] (defScope st_law_same) _ _ = true by decide +kernel) (fun d hd => fun _ _ _ _ _ => eg_call C_law_same (hr.mono (by omega)) (ea_cons (ev_var 2 rfl) ea_nil) ⟨d, rfl, noDs_mem hn d hd, by have := depAll_mem hd; omega, (bigs hb d hd).2, rfl⟩) (le_line (by omega))) (congrArg Res.fresh (List.map_id _)))) ea_nil) G.tuple rfl)) rfl))))))))
  intro n
  induction n with
  | zero => exact key 0 fun m e => by cases e
  | succ n ih => exact key (n + 1) fun m e => by cases e; exact cal_of mF F.kp bF ih
end
end PU
namespace PU
open PySem PySem.Spec PyProof.Rows L2 StX MM

/-- what the law's chain keeps: it leads from a to k -/
structure LcOk (c : Chain) (a k : Kd) (t : Nat) : Prop where
  path : Path 12 6 c a k
  len : c.length ≤ t
  aok : a.ok = true ∧ a.sg ≤ 8
  kok : k.ok = true ∧ k.sg ≤ 8
theorem LcOk.up {c : Chain} {a k : Kd} {t u : Nat} (h : LcOk c a k t) (ht : t ≤ u) : LcOk c a k u := ⟨h.path, Nat.le_trans h.len ht, h.aok, h.kok⟩
theorem LcOk.snoc {c : Chain} {a k k' : Kd} {t : Nat} {s : MM.Step} (h : LcOk c a k t) (hs : SOk (max k.dep 1 + 3) 6 s k k') (hk : k'.ok = true) (h8 : k'.sg ≤ 8) : LcOk (c ++ [s]) a k' (t + 1) := by
  have hd := dep_sg k
  have := h.kok.2
  exact ⟨h.path.app (Path.one (hs.mono (by omega) (Nat.le_refl 6))), by rw [List.length_append, List.length_singleton]; exact Nat.succ_le_succ h.len, h.aok, hk, h8⟩
theorem LcOk.turn {c : Chain} {a k : Kd} {t : Nat} (h : LcOk c a k t) : LcOk (turned c) k a t := ⟨h.path.turned, by rw [turned_len]; exact h.len, h.kok, h.aok⟩
theorem Path.head {D n : Nat} {c : Chain} {a b : Kd} (h : Path D n c a b) (hne : c ≠ []) : ∃ ks, kindsOf c = a :: ks := by
  cases c with
  | nil => exact absurd rfl hne
  | cons s c =>
    obtain ⟨m, h1, _⟩ := h
    refine ⟨(s :: c).map fun t => (ends t).2, ?_⟩
    show (ends s).1 :: _ = _
    rw [h1.ends]

end PU
namespace PU
open PySem PySem.Spec PyProof.Rows L2 StX MM

def isLC (z : PyData) : Prop := ∃ (c : Chain) (a b : Kd), z = .list (embC c) ∧ LcOk c a b 6 ∧ c ≠ []

section
variable {P : Program} {w : World} {K : PySem.W.Frag} {mg : Str → Option Value} {base : Heap} {f : Addr} {fd : FuncData}

/-! ### _law_chain -/
abbrev st_law_chain : Stmt := top 86
theorem sc_law_chain : FnScope ["_law_purse_here", "_law_plains_here", "_law_many", "_law_found", "_law_kind_here", "_law_spin", "_law_step", "_law_late"] ["_law_purse_here", "_law_plains_here", "_law_many"] (defScope st_law_chain) := ⟨rfl, rfl, rfl, by decide +kernel, rfl, by decide +kernel, by decide +kernel⟩
def r_law_chain : List PyData → (PyData → Prop) → Prop := fun ds B => ∃ (pl : PyData) (m : Nat), ds = [pl, .int (m : Int)] ∧ isP pl ∧ 0 < m ∧ m ≤ 6 ∧ ∀ z, isLC z → B z
theorem ok_law_chain (G : Mg K mg) (C_law_draw : Cal P w K mg base 2 "_law_draw" ["_law_purse_here", "_law_many"] (spC K 1 r_law_draw)) (C_law_kind : Cal P w K mg base 6 "_law_kind" ["_law_purse_here", "_law_plains_here", "_law_signs_here"] (spC K 13 (r_law_kind 2))) (C_law_up_step : Cal P w K mg base 7 "_law_up_step" ["_law_purse_here", "_law_plains_here", "_law_kind_here"] (spC K 15 r_law_up_step)) (C_law_step_ends : Cal P w K mg base 225 "_law_step_ends" ["_law_step"] (spR K r_law_step_ends)) (C_law_signs : Cal P w K mg base 41 "_law_signs" ["_law_kind_here"] (spR K (r_law_signs 40))) (C_law_back_chain : Cal P w K mg base 1 "_law_back_chain" ["_law_chain_here"] (spR K r_law_back_chain)) (C_law_along : Cal P w K mg base 226 "_law_along" ["_law_value"] (spR K r_law_along)) (F : Fun K "_law_chain" "_law_chain" st_law_chain f fd) : FnOk P w K mg base CX0 227 f fd ["_law_purse_here", "_law_plains_here", "_law_many"] (spC K 120 r_law_chain) := by
  refine Fun.okC F sc_law_chain 120 r_law_chain (by rintro _ _ ⟨_, _, rfl, _⟩; rfl) (by decide) fun cdv A outer s0 H E hr ds B n h hcap => ?_
  have nd := sc_law_chain.nd
  have hu := hr.units
  obtain ⟨pl, mm, rfl, hpl, m0, m6, hB⟩ := h
  show EW _ _ [.purse, .dat pl, .dat (.int (mm : Int)), .unk, .unk, .unk, .unk, .unk] _ _ _
  refine ew_cons (es_parC 0 3 4 (B := isK1) (ec_of (EG.ev (el_lst ea_nil (small_len rfl)))) (ec_call C_law_kind (hr.mono (by omega)) (eac_cons (ec_of (ev_var 1 rfl)) (eac_cons (ec_draw C_law_draw (hr.mono (by omega)) ev_int (by decide) (by decide)) eac_nil)) (fun ds h => ?_)) (fun d e hd he => ?_) (by omega) (nd := nd))
  · obtain ⟨z, t, rfl, rfl, z2, t2, rfl, ⟨j, rfl, j0, j1⟩, rfl⟩ := h
    obtain ⟨m, rfl⟩ : ∃ m : Nat, j = (m : Int) := ⟨j.toNat, by omega⟩
    exact ⟨_, m, rfl, hpl, by omega, fun z ⟨a, e, h1, h2⟩ => ⟨a, e, h1, by omega⟩⟩
  obtain ⟨k0, rfl, hk0, sk0⟩ := he
  cases hd
  refine ⟨.inl ⟨rfl, ⟨_, rfl⟩, ⟨_, rfl⟩⟩, EW.nrm [_, _, _, _, _, _, _, _] rfl (ew_cons ?_)⟩
  refine es_for (ds := rngD 0 mm) 5 (fun t δ' n' => ∃ (x5 x6 x7 : Slot) (c : Chain) (a k : Kd) (q : Nat), δ' = [.purse, .dat pl, .dat (.int (mm : Int)), .dat (.list (embC c)), .dat (emb k), x5, x6, x7] ∧ n' = .coin q ∧ q ≤ n + 14 + 17 * t ∧ LcOk c a k t)
    (ei_range1 (j := (mm : Int)) (ev_var 2 rfl) G.range (by omega) (by omega)) ⟨_, _, _, [], k0, k0, _, rfl, rfl, by omega, ⟨rfl, Nat.le_refl 0, ⟨hk0, by omega⟩, ⟨hk0, by omega⟩⟩⟩ (fun t dd δ' n' hdm hI => ?_) (fun δ' n' hI => ?_) nd
  · obtain ⟨x5, x6, x7, c, a, k, q, rfl, rfl, hq, hc⟩ := hI
    obtain ⟨i0, hi0, hi1, rfl⟩ := map_get hdm
    have ht : t < mm := by have := (List.getElem?_eq_some_iff.mp hdm).1; rw [rngD_len] at this; exact this
    refine ⟨.inr rfl, EW.nrm [_, _, _, _, _, _, _, _] rfl ?_⟩
    refine ew_cons (es_setC 0 6 (ec_call (A := isUp k) C_law_up_step (hr.mono (by omega)) (eac_cons (ec_of (ev_var 1 rfl)) (eac_cons (ec_of (ev_var 4 rfl)) eac_nil)) (fun ds h => ?_)) (fun d hd => ?_) (by omega) (nd := nd))
    · obtain ⟨z, r, rfl, rfl, z2, r2, rfl, rfl, rfl⟩ := h
      exact ⟨_, k, rfl, hpl, hc.kok.1, fun z hz => hz⟩
    obtain ⟨s, k2, rfl, hs⟩ := hd
    have hdk := dep_sg k
    have hk8 := hc.kok.2
    have hg := hs.good.2
    refine ⟨.inr (nl_embS s), EW.nrm [_, _, _, _, _, _, _, _] rfl ?_⟩
    refine ew_cons (es_set 7 (ev_ix (eg_call C_law_step_ends (hr.mono (by omega)) (ea_cons (ev_var 6 rfl) ea_nil) ⟨s, _, _, rfl, hs.mono (by omega) (by omega), rfl⟩) ev_int rfl) (EW.nrm [_, _, _, _, _, _, _, _] rfl ?_) (safe := .inr (nl_emb k2)) (nd := nd))
    refine ew_cons (ES.imp (M := fun δ' n' => ∃ (c : Chain) (a k : Kd) (q' : Nat), δ' = [.purse, .dat pl, .dat (.int (mm : Int)), .dat (.list (embC c)), .dat (emb k), .dat (.int (0 + (i0 : Int))), .dat (embS s), .dat (emb k2)] ∧ n' = .coin q' ∧ q' ≤ n + 14 + 17 * t + 16 ∧ LcOk c a k (t + 1)) ?_ fun δ' n' hM => ?_)
    · refine es_ifC 0 (tc_bw (bc_or (tc_of (et_cmp cm_lt (eg_call C_law_signs (hr.mono (by omega)) (ea_cons (ev_var 7 rfl) ea_nil) ⟨k2, rfl, by omega, rfl⟩) ev_int)) (fun _ => bc_or1 (tc_bw (bc_and (tc_of (et_cmp cm_lt (eg_call C_law_signs (hr.mono (by omega)) (ea_cons (ev_var 7 rfl) ea_nil) ⟨k2, rfl, by omega, rfl⟩) ev_int)) (fun _ => bc_and1 (tc_eqI (ec_draw C_law_draw (hr.mono (by omega)) ev_int (by decide) (by decide)) (ec_of ev_int) isN.int eq_int))))))) (fun hT => ?_) (fun hT => ew_nil ⟨c, a, k, _, rfl, rfl, by omega, hc.up (Nat.le_succ t)⟩) (by omega)
      have h8 : k2.sg ≤ 8 := by
        rcases hT with ⟨_, e⟩ | ⟨_, ⟨e, _⟩ | ⟨e, _⟩⟩
        · have := of_decide_eq_true e.symm; omega
        · cases e
        · have := of_decide_eq_true e.symm; omega
      have hcl := hc.len
      exact ew_one (es_par 3 4 (r1 := .dat (.list (embC (c ++ [s])))) (r2 := .dat (emb k2)) (EV.to (EG.ev (eg_bin (br_cat (le_line (by rw [embC_len]; show _ + 1 ≤ 100000; omega))) (ev_var 3 rfl) (EG.ev (el_lst (ea_cons (ev_var 6 rfl) ea_nil) (small_len rfl))))) (by rw [embC_snoc] <;> rfl)) (ev_var 7 rfl) ⟨c ++ [s], a, k2, _, rfl, rfl, by omega, hc.snoc hs hg.1 h8⟩ (nd := nd))
    clear hc hs hdk hk8
    obtain ⟨c, a, k, q', rfl, rfl, hq', hc⟩ := hM
    have hv : Val c := Path.val (by omega) (by omega) hc.path
    have hlay := lay_embC hv
    have hcl := hc.len
    refine ew_one (es_ifC 0 (tc_bw (bc_and (tc_eqI (ec_draw C_law_draw (hr.mono (by omega)) ev_int (by decide) (by decide)) (ec_of ev_int) isN.int eq_int) (fun _ => bc_and1 (tc_of (et_cmp (cm_neNil hu hlay) (ev_var 3 rfl) (EG.ev (el_lst ea_nil (small_len rfl)))))))) (fun hT => ?_) (fun hT => ew_nil ⟨_, _, _, c, a, k, _, rfl, rfl, by omega, hc⟩) (by omega))
    have hne : c ≠ [] := by
      rcases hT with ⟨e, _⟩ | ⟨_, e⟩
      · cases e
      · intro ec; subst ec; cases e
    obtain ⟨ks, hks⟩ := Path.head hc.path hne
    exact ew_one (es_par 3 4 (r1 := .dat (.list (embC (turned c)))) (r2 := .dat (emb a)) (EG.ev (eg_call C_law_back_chain (hr.mono (by omega)) (ea_cons (ev_var 3 rfl) ea_nil) ⟨c, rfl, by omega, rfl⟩)) (ev_ix (eg_call (r := .dat (.list (embK (a :: ks)))) C_law_along (hr.mono (by omega)) (ea_cons (ev_var 3 rfl) ea_nil) (.inl ⟨c, rfl, hv, by omega, hne, Path.linked hc.path, by rw [hks]⟩)) ev_int (by exact at_zero _ _)) ⟨_, _, _, turned c, k, a, _, rfl, rfl, by omega, hc.turn⟩ (nd := nd))
  · obtain ⟨x5, x6, x7, c, a, k, q, rfl, rfl, hq, hc⟩ := hI
    rw [rngD_len] at hq hc
    have hv : Val c := Path.val (by omega) (by omega) hc.path
    have hlay := lay_embC hv
    cases c with
    | nil =>
      have hdk := dep_sg k
      have hk8 := hc.kok
      exact ew_one (es_ret (EG.ev (eg_ifF (et_cmp (CmpR.to (cm_neNil hu hlay) rfl) (ev_var 3 rfl) (EG.ev (el_lst ea_nil (small_len rfl)))) (EG.asC [(true, Dv.is k)] (el_lst (ea_cons (ev_tup (ea_cons ev_str (ea_cons (ev_tup (ea_cons ev_str (ea_cons (ev_var 4 rfl) ea_nil))) ea_nil))) ea_nil) (small_len rfl)) rfl))) ⟨⟨_, rfl, hB _ ⟨[(true, .is k)], k, k, rfl, ⟨Path.one (show Tl 12 6 (.is k) [k] k from tl_is hk8.1 (by omega) (by omega)), (show 1 ≤ 6 by omega), hk8, hk8⟩, by simp⟩⟩, q, rfl, by omega⟩)
    | cons s c =>
      exact ew_one (es_ret (eg_ifT (et_cmp (CmpR.to (cm_neNil hu hlay) rfl) (ev_var 3 rfl) (EG.ev (el_lst ea_nil (small_len rfl)))) (ev_var 3 rfl)) ⟨⟨_, rfl, hB _ ⟨s :: c, a, k, rfl, hc.up m6, by simp⟩⟩, q, rfl, by omega⟩)
end
end PU
namespace PU
open PySem PySem.Spec PyProof.Rows L2 StX MM
/-! ## calls by names alone, from the last parameter to the first -/
theorem vals_rev {xs : List V} {us : List Value} (h : Vals xs us) : Vals xs.reverse us.reverse := by
  induction xs generalizing us with
  | nil => cases h; exact .nil
  | cons x xs ih =>
    cases h with
    | cons r t => rw [List.reverse_cons, List.reverse_cons]; exact (ih t).append (.cons r .nil)
/-- a def that may be called by names -/
structure CalK (P : Program) (w : World) (K : PySem.W.Frag) (mg : Str → Option Value) (base : Heap) (k : Nat) (x : Str) (ps : List Str) (sp : Sp) : Prop where
  ex : ∃ (a : Addr) (fd : FuncData), mg x = some (.ref a) ∧ PySem.W.keepIn K (.ref a) = true ∧ (∀ (s : Shared) (ws : List Value), ws.length = ps.length → BindsTo s fd ⟨[], ps.reverse.zip ws⟩ (ps.zip ws.reverse)) ∧ FnOk P w K mg base CX0 k a fd ps sp
section
variable {X : Cx} {δ : PEnv} {e a b c : Expr} {es : List Expr} {pos kp : Pos} {d x y : PyData} {ds xs ys : List PyData} {kws : List Keyword} {nm : Option Str}
theorem pe_callR {n : Nat} {x : Str} {p : Pos} {ps : List Str} {sp : Sp} {f : Addr} {fd : FuncData} {tk : TA} (F : FnOk X.prog X.w X.K X.mg X.base CX0 n f fd ps sp) (hr : Room n X.A) (hg : Gl X x) (hm : X.mg x = some (.ref f)) (hk : PySem.W.keepIn X.K (.ref f) = true)
    (hb : ∀ (s : Shared) (ws : List Value), ws.length = ps.length → BindsTo s fd ⟨[], ps.reverse.zip ws⟩ (ps.zip ws.reverse)) (hkw : PK X kws tk) (hdb : (x == ("__debug__" : Str)) = false) (hall : (backToKw pos (keywordEach kws X.env)).all (·.1.isSome) = true)
    (hks : (backToKw pos (keywordEach kws X.env)).filterMap (·.1) = ps.reverse) (hpl : ((backTo pos (starEach [] X.env)).any (·.1) || (backToKw pos (keywordEach kws X.env)).any (·.1.isNone)) = false) :
    PE X (.Call (.Name x p) [] kws pos) (fun σ H Q => tk σ H fun zs H2 => sp zs.reverse H2 Q L2.E0) := by
  refine ⟨fun pins s σ H Q I h => ?_⟩
  refine wpAny_Call_Name_kw (ld_glob I hg hm ?_ hdb)
  refine PySem.W.callWith_KW0 (h₀ := X.base) I.ok.mod.kin hk hall (thn (hkw.run pos pins s σ H _ I h) fun ws s2 ⟨zs, H2, I2, rz, q2⟩ => ⟨I2.kIn, ?_⟩) hpl
  rw [hks]
  have r2 := vals_rev rz
  have hl : ws.length = ps.length := by
    have e1 := F.len _ _ _ _ q2
    have e2 := r2.length
    rw [List.length_reverse, List.length_reverse] at e2
    rw [List.length_reverse] at e1
    omega
  refine wpAny_call (codeAny_mono (F.run X.A X.stack s2 H2 ⟨[], ps.reverse.zip ws⟩ ws.reverse zs.reverse Q L2.E0 hr I2.env0 (hb s2 ws hl) r2 q2) fun r s' hq => ?_)
  cases r with
  | error e => exact pass0 pins σ H2 s2 e s' I2 hq
  | ok fl =>
    cases fl with
    | ret u => exact I2.after hq
    | next => exact False.elim hq
    | brk => exact False.elim hq
    | cont => exact False.elim hq
/-- the keywords' values -/
def EK (X : Cx) (kws : List Keyword) (δ : PEnv) (ds : List PyData) : Prop := ∃ tk : TA, PK X kws tk ∧
  ∀ (S : Addr → Prop) (σ : L2.St) (H : Hp) (Q : List V → Hp → Prop), Ok X.K S H σ δ → (∀ vs H', Same H H' → RepAll X.K (hide S H') vs ds → Q vs H') → tk σ H Q
theorem ek_nil : EK X [] δ [] := ⟨tNil, pk_nil, fun S σ H Q ok q => q [] H (Same.refl H) .nil⟩
theorem ek_cons (ha : EV X e δ d) (hr : EK X kws δ ds) : EK X (⟨nm, e, kp⟩ :: kws) δ (d :: ds) := by
  obtain ⟨tk, h1, h2⟩ := hr
  refine ⟨tCons (sE X e) tk, pk_cons pe_s h1, fun S σ H Q ok q => ?_⟩
  show sE X e σ H _
  refine ha S σ H _ ok fun v H1 s1 g1 => ?_
  refine h2 S σ H1 _ (ok.m s1) fun vs H2 s2 g2 => ?_
  exact q _ _ (s1.trans s2) (.cons (Rep.m (hide_same s2) g1) g2)
theorem eg_callR {n : Nat} {x : Str} {p : Pos} {ps : List Str} {f : List PyData → Res → Prop} {r : Res} (C : CalK X.prog X.w X.K X.mg X.base n x ps (spR X.K f)) (hr : Room n X.A) (ha : EK X kws δ ds) (hf : f ds.reverse r) (hg : Gl X x := by rfl)
    (hd : (x == ("__debug__" : Str)) = false := by decide) (hall : (backToKw pos (keywordEach kws X.env)).all (·.1.isSome) = true := by rfl)
    (hks : (backToKw pos (keywordEach kws X.env)).filterMap (·.1) = ps.reverse := by rfl) (hpl : ((backTo pos (starEach [] X.env)).any (·.1) || (backToKw pos (keywordEach kws X.env)).any (·.1.isNone)) = false := by rfl) : EG X (.Call (.Name x p) [] kws pos) δ r := fun S σ H Q ok q => by
  obtain ⟨a, fd, hm, hk, hb, F⟩ := C.ex
  obtain ⟨tk, h1, h2⟩ := ha
  refine sE_of (pe_callR F hr hg hm hk hb h1 hd hall hks hpl) ?_
  refine h2 S σ H _ ok fun vs H1 s1 g1 => ?_
  exact ⟨S, ds.reverse, r, (ok.m s1).hid, g1.reverse, hf, fun v H' s2 g2 => q _ _ (s1.trans s2) (g2.back s1)⟩
theorem en_callR {n : Nat} {x : Str} {p : Pos} {ps : List Str} {f : List PyData → (Res → Prop) → Prop} {P : Res → Prop} (C : CalK X.prog X.w X.K X.mg X.base n x ps (spN X.K f)) (hr : Room n X.A) (ha : EK X kws δ ds) (hf : f ds.reverse P) (hg : Gl X x := by rfl)
    (hd : (x == ("__debug__" : Str)) = false := by decide) (hall : (backToKw pos (keywordEach kws X.env)).all (·.1.isSome) = true := by rfl)
    (hks : (backToKw pos (keywordEach kws X.env)).filterMap (·.1) = ps.reverse := by rfl) (hpl : ((backTo pos (starEach [] X.env)).any (·.1) || (backToKw pos (keywordEach kws X.env)).any (·.1.isNone)) = false := by rfl) : EN X (.Call (.Name x p) [] kws pos) δ P := fun S σ H Q ok q => by
  obtain ⟨a, fd, hm, hk, hb, F⟩ := C.ex
  obtain ⟨tk, h1, h2⟩ := ha
  refine sE_of (pe_callR F hr hg hm hk hb h1 hd hall hks hpl) ?_
  refine h2 S σ H _ ok fun vs H1 s1 g1 => ?_
  exact ⟨S, ds.reverse, P, (ok.m s1).hid, g1.reverse, hf, fun r v H' hP s2 g2 => q r _ _ hP (s1.trans s2) (g2.back s1)⟩
/-- zip of a list with its like -/
theorem ei_zipL {p tpos : Pos} {elts : List Expr} {kk : Nat} (ha : EA X [a, b] δ [.list ds, .list ds]) (hm : X.mg "zip" = none) (hg : Gl X "zip" := by rfl)
    (hs : starEach [a, b] X.env = (false, eval a X.env) :: starEach [b] X.env := by rfl) (hpl : (backTo pos (starEach [b] X.env)).any (·.1) = false := by rfl) :
    EI X (.Tuple elts kk tpos) (.Call (.Name "zip" p) [a, b] [] pos) δ (ds.map fun d => PyData.tuple [d, d]) := fun S σ H R ok q => by
  refine sI_of (RZ.pi_zipA hg hm pa_s hs hpl) ?_
  refine ha S σ H _ ok fun vs H1 s1 g1 => ?_
  cases g1 with
  | cons g t =>
    cases t with
    | cons g' t =>
      cases t
      cases g with
      | @lst a1 vs1 _ h1 h2 =>
        cases g' with
        | @lst a2 vs2 _ k1 k2 =>
          refine ⟨a1, a2, vs1, vs2, rfl, .inl ⟨SqL.of (hide_some h1).2, SqL.of (hide_some k1).2, q _ _ s1 ?_⟩⟩
          have at1 : ∀ {H2 : Hp}, Same (hide S H1) (hide S H2) → H2 a1 = some (.lst vs1) := fun e => (hide_some (e _ _ h1)).2
          have at2 : ∀ {H2 : Hp}, Same (hide S H1) (hide S H2) → H2 a2 = some (.lst vs2) := fun e => (hide_some (e _ _ k1)).2
          have l1 := h2.length
          have l2 := k2.length
          refine ⟨fun H2 i e hi => ?_, fun H2 e => ?_, fun T H2 i x H' hid hT2 e hi hy => ?_⟩
          · rw [List.length_map] at hi
            exact ⟨vs1, vs2, vs1[i], vs2[i], SqL.of (at1 e), SqL.of (at2 e), List.getElem?_eq_getElem (by omega), List.getElem?_eq_getElem (by omega)⟩
          · rw [List.length_map]
            exact ⟨vs1, vs2, SqL.of (at1 e), SqL.of (at2 e), .inl (by omega)⟩
          · obtain ⟨Q0, x', y', rfl, hQ, rfl, f1, f2⟩ := hy
            obtain ⟨d1, e1, r1⟩ := h2.get' (f1 vs1 (SqL.of (at1 e)))
            obtain ⟨d2, e2, r2⟩ := k2.get' (f2 vs2 (SqL.of (at2 e)))
            rw [e1] at e2
            cases e2
            have nn := same_new hQ (.tup [x', y'])
            refine ⟨nn, .tuple [d1, d1], by rw [List.getElem?_map, e1] <;> rfl, .tup (.inl (.inl ?_)) (.cons ((r1.m (hide_ext hT2 e)).m (hide_same nn)) (.cons ((r2.m (hide_ext hT2 e)).m (hide_same nn)) .nil))⟩
            rw [hide_get (fun z => hid _ z hQ), upd_same]
/-- zip of a tuple with its like -/
theorem ei_zipT {p tpos : Pos} {elts : List Expr} {kk : Nat} (ha : EA X [a, b] δ [.tuple ds, .tuple ds]) (hm : X.mg "zip" = none) (hg : Gl X "zip" := by rfl)
    (hs : starEach [a, b] X.env = (false, eval a X.env) :: starEach [b] X.env := by rfl) (hpl : (backTo pos (starEach [b] X.env)).any (·.1) = false := by rfl) :
    EI X (.Tuple elts kk tpos) (.Call (.Name "zip" p) [a, b] [] pos) δ (ds.map fun d => PyData.tuple [d, d]) := fun S σ H R ok q => by
  refine sI_of (RZ.pi_zipA hg hm pa_s hs hpl) ?_
  refine ha S σ H _ ok fun vs H1 s1 g1 => ?_
  cases g1 with
  | cons g t =>
    cases t with
    | cons g' t =>
      cases t
      cases g with
      | @tup a1 vs1 _ h1 h2 =>
        cases g' with
        | @tup a2 vs2 _ k1 k2 =>
          refine ⟨a1, a2, vs1, vs2, rfl, .inr ⟨same_sqt hide_le h1, same_sqt hide_le k1, q _ _ s1 ?_⟩⟩
          have at1 : ∀ {H2 : Hp}, Same (hide S H1) (hide S H2) → SqT X.K H2 a1 vs1 := fun e => same_sqt hide_le (same_sqt e h1)
          have at2 : ∀ {H2 : Hp}, Same (hide S H1) (hide S H2) → SqT X.K H2 a2 vs2 := fun e => same_sqt hide_le (same_sqt e k1)
          have l1 := h2.length
          have l2 := k2.length
          refine ⟨fun H2 i e hi => ?_, fun H2 e => ?_, fun T H2 i x H' hid hT2 e hi hy => ?_⟩
          · rw [List.length_map] at hi
            exact ⟨vs1, vs2, vs1[i], vs2[i], at1 e, at2 e, List.getElem?_eq_getElem (by omega), List.getElem?_eq_getElem (by omega)⟩
          · rw [List.length_map]
            exact ⟨vs1, vs2, at1 e, at2 e, .inl (by omega)⟩
          · obtain ⟨Q0, x', y', rfl, hQ, rfl, f1, f2⟩ := hy
            obtain ⟨d1, e1, r1⟩ := h2.get' (f1 vs1 (at1 e))
            obtain ⟨d2, e2, r2⟩ := k2.get' (f2 vs2 (at2 e))
            rw [e1] at e2
            cases e2
            have nn := same_new hQ (.tup [x', y'])
            refine ⟨nn, .tuple [d1, d1], by rw [List.getElem?_map, e1] <;> rfl, .tup (.inl (.inl ?_)) (.cons ((r1.m (hide_ext hT2 e)).m (hide_same nn)) (.cons ((r2.m (hide_ext hT2 e)).m (hide_same nn)) .nil))⟩
            rw [hide_get (fun z => hid _ z hQ), upd_same]
theorem Mg.tyN (G : Mg X.K X.mg) (t : Ty) (hy : Gl X (Str.ofString t.name)) : TyN X (Str.ofString t.name) t := ⟨hy, G.ty' t, boot_ty t, ty_nn t, ty_nd t⟩
end
end PU
namespace PU
open PySem PySem.Spec PyProof.Rows L2 StX MM

mutual
/-- data that the law's comparer takes: no dict, no None, no long list -/
def exD : PyData → Bool
  | .list ds => decide (ds.length ≤ 1000) && exDs ds
  | .tuple ds => decide (ds.length ≤ 1000) && exDs ds
  | .none => false
  | .dict _ => false
  | _ => true
def exDs : List PyData → Bool
  | [] => true
  | d :: ds => exD d && exDs ds
end
theorem exDs_mem : ∀ {ds : List PyData}, exDs ds = true → ∀ d ∈ ds, exD d = true
  | d :: ds, h, x, hx => by
    have h' : (exD d && exDs ds) = true := h
    rw [Bool.and_eq_true] at h'
    rcases List.mem_cons.mp hx with e | hx
    · subst e; exact h'.1
    · exact exDs_mem h'.2 x hx
theorem exDs_of : ∀ {ds : List PyData}, (∀ d ∈ ds, exD d = true) → exDs ds = true
  | [], _ => rfl
  | d :: ds, h => by
    show (exD d && exDs ds) = true
    rw [h d List.mem_cons_self, exDs_of fun x hx => h x (List.mem_cons_of_mem _ hx)] <;> rfl
theorem exD_list {ds : List PyData} (hl : ds.length ≤ 1000) (h : ∀ d ∈ ds, exD d = true) : exD (.list ds) = true := by
  show (decide (ds.length ≤ 1000) && exDs ds) = true
  rw [decide_eq_true hl, exDs_of h] <;> rfl
theorem exD_tup {ds : List PyData} (hl : ds.length ≤ 1000) (h : ∀ d ∈ ds, exD d = true) : exD (.tuple ds) = true := by
  show (decide (ds.length ≤ 1000) && exDs ds) = true
  rw [decide_eq_true hl, exDs_of h] <;> rfl
theorem exD_tup2 {x y : PyData} (hx : exD x = true) (hy : exD y = true) : exD (.tuple [x, y]) = true := by
  show (true && (exD x && (exD y && true))) = true
  rw [hx, hy] <;> rfl
theorem exD_tup3 {x y z : PyData} (hx : exD x = true) (hy : exD y = true) (hz : exD z = true) : exD (.tuple [x, y, z]) = true := by
  show (true && (exD x && (exD y && (exD z && true)))) = true
  rw [hx, hy, hz] <;> rfl
theorem exD_tup4 {x y z u : PyData} (hx : exD x = true) (hy : exD y = true) (hz : exD z = true) (hu : exD u = true) : exD (.tuple [x, y, z, u]) = true := by
  show (true && (exD x && (exD y && (exD z && (exD u && true))))) = true
  rw [hx, hy, hz, hu] <;> rfl
theorem exD_emb : ∀ k : Kd, exD (emb k) = true
  | .pl _ => rfl
  | .ov a b => exD_tup3 rfl (exD_emb a) (exD_emb b)
  | .un a b => exD_tup3 rfl (exD_emb a) (exD_emb b)
  | .th a b => exD_tup3 rfl (exD_emb a) (exD_emb b)
theorem exD_embD : ∀ d : Dv, exD (embD d) = true
  | .is k => exD_tup2 rfl (exD_emb k)
  | .om d => exD_tup2 rfl (exD_embD d)
  | .um d => exD_tup2 rfl (exD_embD d)
  | .tm a b => exD_tup3 rfl (exD_embD a) (exD_embD b)
  | .ou a b => exD_tup4 rfl rfl (exD_embD a) (exD_embD b)
  | .uu a b => exD_tup4 rfl rfl (exD_embD a) (exD_embD b)
  | .tu d => exD_tup3 rfl rfl (exD_embD d)
  | .ct a b => exD_tup4 rfl rfl (exD_embD a) (exD_embD b)
theorem exD_embS (s : MM.Step) : exD (embS s) = true := exD_tup2 rfl (exD_embD s.2)
theorem exD_embK {r : List Kd} (h : r.length ≤ 1000) : exD (.list (embK r)) = true := exD_list (by rw [embK_len]; exact h) fun d hd => by
  obtain ⟨k, _, rfl⟩ := List.mem_map.mp hd
  exact exD_emb k
theorem exD_embC {c : Chain} (h : c.length ≤ 1000) : exD (.list (embC c)) = true := exD_list (by rw [embC_len]; exact h) fun d hd => by
  obtain ⟨k, _, rfl⟩ := List.mem_map.mp hd
  exact exD_embS k

section
variable {P : Program} {w : World} {K : PySem.W.Frag} {mg : Str → Option Value} {base : Heap} {f : Addr} {fd : FuncData}

/-! ### _law_exact -/
abbrev st_law_exact : Stmt := top 65
theorem sc_law_exact : FnScope ["_law_mine", "_law_theirs", "_law_alike", "_law_a", "_law_b", "_law_key"] ["_law_mine", "_law_theirs"] (defScope st_law_exact) := ⟨rfl, rfl, rfl, by decide +kernel, rfl, by decide +kernel, by decide +kernel⟩
def r_law_exact (n : Nat) : List PyData → Res → Prop := fun ds r => ∃ d : PyData, ds = [d, d] ∧ exD d = true ∧ d.depth ≤ n ∧ r = .dat (.bool true)
theorem ok_law_exact (G : Mg K mg) (F : Fun K "_law_exact" "_law_exact" st_law_exact f fd) (bF : Binds K fd ["_law_mine", "_law_theirs"] []) (mF : mg "_law_exact" = some (.ref f)) :
    ∀ n : Nat, FnOk P w K mg base CX0 (n + 1) f fd ["_law_mine", "_law_theirs"] (spR K (r_law_exact n)) := by
  have key : ∀ n : Nat, (∀ m, n = m + 1 → Cal P w K mg base n "_law_exact" ["_law_mine", "_law_theirs"] (spR K (r_law_exact m))) → FnOk P w K mg base CX0 (n + 1) f fd ["_law_mine", "_law_theirs"] (spR K (r_law_exact n)) := by
    intro n ih
    refine Fun.okR F sc_law_exact (r_law_exact n) (by rintro _ _ ⟨_, rfl, _⟩; rfl) fun cdv A outer s H E hr ds r h => ?_
    have nd := sc_law_exact.nd
    obtain ⟨d, rfl, hn, hd, rfl⟩ := h
    cases d with
    | none => cases hn
    | dict _ => cases hn
    | bool b => exact (ew_cons (es_ifF (et_val (ev_isi2 (G.tyN .list rfl) (G.tyN .tuple rfl) (ev_var 0 rfl) G.isinstance boot_isi)) (ew_nil (ew_cons (es_ifF (et_val (G.isi .dict rfl rfl rfl (ev_var 0 rfl))) (ew_nil (ew_cons (es_set 2 (ev_cmp (CmpR.to cm_eqB rfl) (G.isi .int rfl rfl rfl (ev_var 0 rfl)) (G.isi .int rfl rfl rfl (ev_var 1 rfl))) (EW.nrm [_, _, _, _, _, _] rfl
      (ew_one (es_ret (ev_andT (ev_var 2 rfl) (ev_andT (ev_cmp (CmpR.to cm_eqB rfl) (G.isi .bool rfl rfl rfl (ev_var 0 rfl)) (G.isi .bool rfl rfl rfl (ev_var 1 rfl))) (ev_one (ev_cmp (CmpR.to cm_eqB (by simp)) (ev_var 0 rfl) (ev_var 1 rfl))))) rfl))) (nd := nd)))))))))
    | int i => exact (ew_cons (es_ifF (et_val (ev_isi2 (G.tyN .list rfl) (G.tyN .tuple rfl) (ev_var 0 rfl) G.isinstance boot_isi)) (ew_nil (ew_cons (es_ifF (et_val (G.isi .dict rfl rfl rfl (ev_var 0 rfl))) (ew_nil (ew_cons (es_set 2 (ev_cmp (CmpR.to cm_eqB rfl) (G.isi .int rfl rfl rfl (ev_var 0 rfl)) (G.isi .int rfl rfl rfl (ev_var 1 rfl))) (EW.nrm [_, _, _, _, _, _] rfl
      (ew_one (es_ret (ev_andT (ev_var 2 rfl) (ev_andT (ev_cmp (CmpR.to cm_eqB rfl) (G.isi .bool rfl rfl rfl (ev_var 0 rfl)) (G.isi .bool rfl rfl rfl (ev_var 1 rfl))) (ev_one (ev_cmp (CmpR.to cm_eqI (by simp)) (ev_var 0 rfl) (ev_var 1 rfl))))) rfl))) (nd := nd)))))))))
    | str z => exact (ew_cons (es_ifF (et_val (ev_isi2 (G.tyN .list rfl) (G.tyN .tuple rfl) (ev_var 0 rfl) G.isinstance boot_isi)) (ew_nil (ew_cons (es_ifF (et_val (G.isi .dict rfl rfl rfl (ev_var 0 rfl))) (ew_nil (ew_cons (es_set 2 (ev_cmp (CmpR.to cm_eqB rfl) (G.isi .int rfl rfl rfl (ev_var 0 rfl)) (G.isi .int rfl rfl rfl (ev_var 1 rfl))) (EW.nrm [_, _, _, _, _, _] rfl
      (ew_one (es_ret (ev_andT (ev_var 2 rfl) (ev_andT (ev_cmp (CmpR.to cm_eqB rfl) (G.isi .bool rfl rfl rfl (ev_var 0 rfl)) (G.isi .bool rfl rfl rfl (ev_var 1 rfl))) (ev_one (ev_cmp (CmpR.to cm_eqS (by simp)) (ev_var 0 rfl) (ev_var 1 rfl))))) rfl))) (nd := nd)))))))))
    | list es =>
      have hn : (decide (es.length ≤ 1000) && exDs es) = true := hn
      have hd : PyData.depthAll es + 1 ≤ n := hd
      rw [Bool.and_eq_true, decide_eq_true_iff] at hn
      obtain ⟨hl, hn⟩ := hn
      cases n with
      | zero => omega
      | succ m =>
        have C_law_exact := ih m rfl
        exact (ew_cons (es_ifT (et_val (ev_isi2 (G.tyN .list rfl) (G.tyN .tuple rfl) (ev_var 0 rfl) G.isinstance boot_isi)) (ew_cons (es_set 2 (ev_andT (ev_cmp (CmpR.to cm_eqB rfl) (G.isi .list rfl rfl rfl (ev_var 1 rfl)) (G.isi .list rfl rfl rfl (ev_var 0 rfl))) (ev_one (ev_cmp (CmpR.to cm_eqB rfl) (G.isi .tuple rfl rfl rfl (ev_var 1 rfl)) (G.isi .tuple rfl rfl rfl (ev_var 0 rfl))))) (EW.nrm [_, _, _, _, _, _] rfl
      (ew_one (es_ret (ev_andT (ev_var 2 rfl) (ev_andT (ev_cmp (CmpR.to cm_eqI (decide_eq_true rfl)) (eg_callB (cr_len rfl) (ea_cons (ev_var 0 rfl) ea_nil) G.len boot_len) (eg_callB (cr_len rfl) (ea_cons (ev_var 1 rfl) ea_nil) G.len boot_len)) (ev_one (eg_callB (cr_allT fun d hd => by obtain ⟨_, _, rfl⟩ := List.mem_map.mp hd; rfl) (ea_cons (EG.ev (el_lc2 3 4 (f := fun _ => .bool true) nd (ei_zipL (ea_cons (ev_var 0 rfl) (ea_cons (ev_var 1 rfl) ea_nil)) G.zip) (show blkC ["_law_mine", "_law_theirs", "_law_alike", "_law_a", "_law_b", "_law_key"] (defScope st_law_exact) _ _ = true by decide +kernel) (fun d hd => by
        obtain ⟨x, hx, rfl⟩ := List.mem_map.mp hd
        exact ⟨x, x, rfl, fun _ _ _ _ _ => eg_call C_law_exact (hr.mono (by omega)) (ea_cons (ev_var 3 rfl) (ea_cons (ev_var 4 rfl) ea_nil)) ⟨x, rfl, exDs_mem hn x hx, by have := depAll_mem hx; omega, rfl⟩⟩) (le_line (by rw [List.length_map]; omega)))) ea_nil) G.all rfl)))) rfl))) (nd := nd)))))
    | tuple es =>
      have hn : (decide (es.length ≤ 1000) && exDs es) = true := hn
      have hd : PyData.depthAll es + 1 ≤ n := hd
      rw [Bool.and_eq_true, decide_eq_true_iff] at hn
      obtain ⟨hl, hn⟩ := hn
      cases n with
      | zero => omega
      | succ m =>
        have C_law_exact := ih m rfl
        exact (ew_cons (es_ifT (et_val (ev_isi2 (G.tyN .list rfl) (G.tyN .tuple rfl) (ev_var 0 rfl) G.isinstance boot_isi)) (ew_cons (es_set 2 (ev_andT (ev_cmp (CmpR.to cm_eqB rfl) (G.isi .list rfl rfl rfl (ev_var 1 rfl)) (G.isi .list rfl rfl rfl (ev_var 0 rfl))) (ev_one (ev_cmp (CmpR.to cm_eqB rfl) (G.isi .tuple rfl rfl rfl (ev_var 1 rfl)) (G.isi .tuple rfl rfl rfl (ev_var 0 rfl))))) (EW.nrm [_, _, _, _, _, _] rfl
      (ew_one (es_ret (ev_andT (ev_var 2 rfl) (ev_andT (ev_cmp (CmpR.to cm_eqI (decide_eq_true rfl)) (eg_callB (cr_len rfl) (ea_cons (ev_var 0 rfl) ea_nil) G.len boot_len) (eg_callB (cr_len rfl) (ea_cons (ev_var 1 rfl) ea_nil) G.len boot_len)) (ev_one (eg_callB (cr_allT fun d hd => by obtain ⟨_, _, rfl⟩ := List.mem_map.mp hd; rfl) (ea_cons (EG.ev (el_lc2 3 4 (f := fun _ => .bool true) nd (ei_zipT (ea_cons (ev_var 0 rfl) (ea_cons (ev_var 1 rfl) ea_nil)) G.zip) (show blkC ["_law_mine", "_law_theirs", "_law_alike", "_law_a", "_law_b", "_law_key"] (defScope st_law_exact) _ _ = true by decide +kernel) (fun d hd => by
        obtain ⟨x, hx, rfl⟩ := List.mem_map.mp hd
        exact ⟨x, x, rfl, fun _ _ _ _ _ => eg_call C_law_exact (hr.mono (by omega)) (ea_cons (ev_var 3 rfl) (ea_cons (ev_var 4 rfl) ea_nil)) ⟨x, rfl, exDs_mem hn x hx, by have := depAll_mem hx; omega, rfl⟩⟩) (le_line (by rw [List.length_map]; omega)))) ea_nil) G.all rfl)))) rfl))) (nd := nd)))))
  intro n
  induction n with
  | zero => exact key 0 fun m e => by cases e
  | succ n ih => exact key (n + 1) fun m e => by cases e; exact cal_of mF F.kp bF ih
end
end PU
namespace PU
open PySem PySem.Spec PyProof.Rows L2 StX MM
section
variable {X : Cx} {δ : SEnv} {n k c1 c2 c3 : Nat} {N : SEnv → Bud → Prop} {R : Res → Bud → Prop} {e a b c : Expr} {body as bs : List Stmt} {pos pos' : Pos} {A B C : PyData → Prop}
/-- for x in range(a), where a takes coins -/
theorem es_forR {x : Str} {px p : Pos} (pi i : Nat) (I : Nat → Nat → SEnv → Bud → Prop) (he : EC X pi a (flat δ) k A) (hA : ∀ z, A z → ∃ j : Nat, z = .int (j : Int) ∧ (j : Int) < 2 ^ 62 ∧ I j 0 δ (.coin (n + k))) (hcap : n + k ≤ cap)
    (hstep : ∀ (j m : Nat) (δ' : SEnv) (n' : Bud), m < j → I j m δ' n' → EW X body (δ'.set i (.dat (.int (0 + (m : Int))))) n' (fun δ'' n'' => I j (m + 1) δ'' n'') R)
    (hd : ∀ (j : Nat) (δ' : SEnv) (n' : Bud), I j j δ' n' → N δ' n') (hm : X.mg "range" = none) (nd : X.N.Nodup := by assumption) (hpi : δ[pi]? = some .purse := by rfl) (hNi : X.N[i]? = some x := by rfl) (hx : Loc X.env.scope x := by first | exact Or.inl rfl | exact Or.inr rfl)
    (hf : X.fn x = true ∨ X.env.scope.names.lookup x = some .local := by first | exact .inl rfl | exact .inr rfl) (hg : Gl X "range" := by rfl) (hs2 : starEach [a] X.env = [(false, eval a X.env)] := by rfl)
    (hpo : PassesOwn (model X.prog X.w) X.A X.env X.xe := by exact PassesOwn.never) (hc : X.calm = true := by rfl) (hs : ∀ y, foldedSetIterable (.Call (.Name "range" p) [a] [] pos') X.env y = pure y := by intro _; rfl) :
    ES X (.For (.Name x px) (.Call (.Name "range" p) [a] [] pos') body [] pos) δ (.coin n) N R :=
  es_forX_core (fun ds m δ' n' => ∃ j, ds = rngD 0 j ∧ I j m δ' n') (fun p S H0 σ H A R ok pu q => by
    refine sI_of (pi_range1 hg hm pa_s hs2) ?_
    refine eac_cons he eac_nil hs2 p S σ H _ n ok.ok (ok.pur pi hpi).1 pu (by omega) fun ds vs H1 hl s1 pu1 g1 => ?_
    obtain ⟨z, t, rfl, hz, rfl⟩ := hl
    obtain ⟨j, rfl, h1, h2⟩ := hA z hz
    cases g1 with
    | cons g t =>
      cases t
      cases g
      exact ⟨(j : Int), rfl, by omega, h1, q (rngD 0 j) _ H1 (.coin (n + k)) ⟨j, rfl, h2⟩ (ok.atC hpi s1 pu1 (n := n)) pu1 (walks_rng 0 j)⟩)
    (pg_name nd hNi hx hf) (fun ds m d δ' n' hdm hI => by
      obtain ⟨j, rfl, hI⟩ := hI
      have hlt : m < j := by
        have := (List.getElem?_eq_some_iff.mp hdm).1
        rw [rngD_len] at this
        exact this
      unfold rngD at hdm
      rw [List.getElem?_map, List.getElem?_range hlt] at hdm
      cases hdm
      refine ⟨_, tgs_name (.inr rfl), fun p S H0 D σ H A ok pu hn hr => hstep j m δ' n' hlt hI p S H0 D σ H A ok pu (fun δ'' n'' σ' H' A' hI' => hn δ'' n'' σ' H' A' ⟨j, rfl, hI'⟩) hr⟩)
    (fun ds δ' n' hI => by
      obtain ⟨j, rfl, hI⟩ := hI
      rw [rngD_len] at hI
      exact hd j δ' n' hI) hpo hc hs
/-- x, y, z = a, b, c; the last takes coins -/
theorem es_par3C {x y z : Str} {px py pz pt pt2 : Pos} {kt k2 : Nat} {d1 d2 : PyData} (pi i j l : Nat) (ha : EV X a (flat δ) d1) (hb : EV X b (flat δ) d2) (hc3 : EC X pi c (flat δ) k A) (hN : ∀ d3, A d3 → nl d3 = true ∧ N (((δ.set i (.dat d1)).set j (.dat d2)).set l (.dat d3)) (.coin (n + k))) (safe : nl d1 = true ∧ nl d2 = true) (hcap : n + k ≤ cap) (nd : X.N.Nodup := by assumption)
    (hpi : δ[pi]? = some .purse := by rfl)
    (hi : X.N[i]? = some x := by rfl) (hj : X.N[j]? = some y := by rfl) (hl : X.N[l]? = some z := by rfl) (hij : i ≠ j := by decide) (hil : i ≠ l := by decide) (hjl : j ≠ l := by decide)
    (hx : X.env.scope.names.lookup x = some .local := by rfl) (hy : X.env.scope.names.lookup y = some .local := by rfl) (hz : X.env.scope.names.lookup z = some .local := by rfl)
    (hc : X.calm = true := by rfl) (hw : swappedStores [.Tuple [.Name x px, .Name y py, .Name z pz] kt pt] (.Tuple [a, b, c] k2 pt2) X.env = pure (some [x, y, z]) := by rfl)
    (hs : swapsWithSole [.Tuple [.Name x px, .Name y py, .Name z pz] kt pt] (.Tuple [a, b, c] k2 pt2) pos.line X.env = pure false := by rfl)
    (he1 : starEach [a, b, c] X.env = (false, eval a X.env) :: starEach [b, c] X.env := by rfl) (he2 : starEach [b, c] X.env = (false, eval b X.env) :: starEach [c] X.env := by rfl) (he3 : starEach [c] X.env = (false, eval c X.env) :: starEach [] X.env := by rfl) :
    ES X (.Assign [.Tuple [.Name x px, .Name y py, .Name z pz] kt pt] (.Tuple [a, b, c] k2 pt2) pos) δ (.coin n) N R := fun p S H0 D σ H Ad ok pu hn hr => by
  refine sS_of (ps_par3 hc nd hi hj hl hij hil hjl hx hy hz (pa_cons pe_s (pa_cons pe_s (pa_cons pe_s pa_nil he3) he2) he1) hw hs) ?_
  refine ha S σ H _ ok.ok fun v H1 s1 g1 => ?_
  refine hb S σ H1 _ (ok.m s1).ok fun w H2 s2 g2 => ?_
  have ok2 := (ok.m s1).m s2
  refine hc3 p S σ H2 _ n ok2.ok (ok.pur pi hpi).1 ((pu.m s1).m s2) hcap fun d3 u H3 hA s3 pu3 g3 => ?_
  refine ⟨v, w, u, rfl, ?_⟩
  have ok3 := ok2.atC hpi s3 pu3 (n := n)
  obtain ⟨h1, h2⟩ := hN d3 hA
  have hS : S p := (ok.pur pi hpi).2.1
  obtain ⟨A', ok'⟩ := ok3.put2 (r1 := .dat d1) (r2 := .dat d2) (Same.refl H3) (Same.refl H3) ((Rep.m (hide_same s2) g1).m (hideC hS s3)) (Rep.m (hideC hS s3) g2) (i := i) (j := j) (.inr ⟨safe.1, safe.2⟩)
  obtain ⟨A'', ok''⟩ := ok'.put (r := .dat d3) (Same.refl H3) g3 (i := l) (.inr h1)
  exact hn _ _ _ H3 A'' h2 ok'' pu3
end
end PU
namespace PU
open PySem PySem.Spec PyProof.Rows L2 StX MM

theorem loosen_ok {k : Kd} (h : k.ok = true) : (loosen k).ok = true ∧ (loosen k).sg = k.sg := by
  have s3 : ∀ a b : Bool, (a && b) = true → a = true ∧ b = true := fun a b h => Bool.and_eq_true_iff.mp h
  cases k with
  | pl w => exact ⟨h, rfl⟩
  | th a b => exact ⟨h, rfl⟩
  | ov x c =>
    cases x with
    | pl w => exact ⟨h, rfl⟩
    | th a b => exact ⟨h, rfl⟩
    | un a b => exact ⟨ok2' (ok2 (ok2 h).1).1 (ok2' (ok2 (ok2 h).1).2 (ok2 h).2), by show a.sg + (b.sg + c.sg + 1) + 1 = a.sg + b.sg + 1 + c.sg + 1; omega⟩
    | ov a b => exact ⟨ok2' (ok2 (ok2 h).1).1 (ok2' (ok2 h).2 (ok2 (ok2 h).1).2), by show a.sg + (c.sg + b.sg + 1) + 1 = a.sg + b.sg + 1 + c.sg + 1; omega⟩
  | un a y =>
    cases y with
    | pl w => exact ⟨h, rfl⟩
    | th b c => exact ⟨h, rfl⟩
    | un b c => exact ⟨h, rfl⟩
    | ov b c => exact ⟨ok2' (ok2' (ok2 h).1 (ok2 (ok2 h).2).1) (ok2 (ok2 h).2).2, by show a.sg + b.sg + 1 + c.sg + 1 = a.sg + (b.sg + c.sg + 1) + 1; omega⟩
theorem isTy_emb (k : Kd) : isTy (emb k) .tuple = notPl k := by cases k <;> rfl
def six (k l : Kd) : List Kd := [.ov (.th k l) l, .un l (.th l k), .ov l (.un k l), .un (.ov l k) l, .th (.ov k l) l, .th k (.ov l l)]
theorem six_ok {k l : Kd} (hk : k.ok = true) (hl : l.ok = true) : ∀ z ∈ six k l, z.ok = true ∧ z.sg = k.sg + 2 * l.sg + 2 := by
  intro z hz
  have h2 : ∀ {a b : Kd}, a.ok = true → b.ok = true → (a.ok && b.ok) = true := fun h1 h2 => ok2' h1 h2
  unfold six at hz
  simp only [List.mem_cons, List.not_mem_nil, or_false] at hz
  rcases hz with rfl | rfl | rfl | rfl | rfl | rfl
  · exact ⟨ok2' (ok2' hk hl) hl, by simp only [Kd.sg]; omega⟩
  · exact ⟨ok2' hl (ok2' hl hk), by simp only [Kd.sg]; omega⟩
  · exact ⟨ok2' hl (ok2' hk hl), by simp only [Kd.sg]; omega⟩
  · exact ⟨ok2' (ok2' hl hk) hl, by simp only [Kd.sg]; omega⟩
  · exact ⟨ok2' (ok2' hk hl) hl, by simp only [Kd.sg]; omega⟩
  · exact ⟨ok2' hk (ok2' hl hl), by simp only [Kd.sg]; omega⟩
theorem six_at {k l : Kd} {j : Int} (h0 : 0 ≤ j) (h1 : j < 6) : ∃ z, z ∈ six k l ∧ ixD (.list (embK (six k l))) j = some (emb z) := by
  obtain ⟨t, rfl⟩ : ∃ t : Nat, j = (t : Int) := ⟨j.toNat, by omega⟩
  have ht : t < (six k l).length := by show t < 6; omega
  refine ⟨(six k l)[t], List.getElem_mem ht, atI_nat ?_⟩
  unfold embK
  rw [List.getElem?_map, List.getElem?_eq_getElem ht] <;> rfl
def isK5 (z : PyData) : Prop := ∃ k : Kd, z = emb k ∧ k.ok = true ∧ k.sg ≤ 5
theorem of7 {a b c d e : PyData} {y : Slot} (h : no1 y) : ownFree [.purse, .dat a, .dat b, .dat c, .dat d, .dat e, y] = true := by show (true && (true && (true && (true && (true && (true && (!y.isOwn && true))))))) = true; rw [show y.isOwn = false from h] <;> rfl

section
variable {P : Program} {w : World} {K : PySem.W.Frag} {mg : Str → Option Value} {base : Heap} {f : Addr} {fd : FuncData}

/-! ### _law_alike_kind -/
abbrev st_law_alike_kind : Stmt := top 82
theorem sc_law_alike_kind : FnScope ["_law_purse_here", "_law_plains_here", "_law_kind_here", "_law_spin", "_law_late", "_law_way", "_law_some"] ["_law_purse_here", "_law_plains_here", "_law_kind_here"] (defScope st_law_alike_kind) := ⟨rfl, rfl, rfl, by decide +kernel, rfl, by decide +kernel, by decide +kernel⟩
def r_law_alike_kind : List PyData → (PyData → Prop) → Prop := fun ds B => ∃ (pl : PyData) (k : Kd), ds = [pl, emb k] ∧ isP pl ∧ k.ok = true ∧ k.sg ≤ 5 ∧ ∀ z, isK5 z → B z
theorem ok_law_alike_kind (G : Mg K mg) (C_law_draw : Cal P w K mg base 2 "_law_draw" ["_law_purse_here", "_law_many"] (spC K 1 r_law_draw)) (C_law_kind : Cal P w K mg base 6 "_law_kind" ["_law_purse_here", "_law_plains_here", "_law_signs_here"] (spC K 13 (r_law_kind 2))) (C_law_loosened : Cal P w K mg base 1 "_law_loosened" ["_law_kind_here"] (spR K r_law_loosened)) (C_law_signs : Cal P w K mg base 41 "_law_signs" ["_law_kind_here"] (spR K (r_law_signs 40))) (F : Fun K "_law_alike_kind" "_law_alike_kind" st_law_alike_kind f fd) : FnOk P w K mg base CX0 42 f fd ["_law_purse_here", "_law_plains_here", "_law_kind_here"] (spC K 60 r_law_alike_kind) := by
  refine Fun.okC F sc_law_alike_kind 60 r_law_alike_kind (by rintro _ _ ⟨_, _, rfl, _⟩; rfl) (by decide) fun cdv A outer s0 H E hr ds B n h hcap => ?_
  have nd := sc_law_alike_kind.nd
  obtain ⟨pl, k0, rfl, hpl, hk0, sk0, hB⟩ := h
  show EW _ _ [.purse, .dat pl, .dat (emb k0), .unk, .unk, .unk, .unk] _ _ _
  refine ew_cons (es_forR 0 3 (fun j m δ' n' => ∃ (x3 x4 x5 x6 : Slot) (k : Kd) (q : Nat), δ' = [.purse, .dat pl, .dat (emb k), x3, x4, x5, x6] ∧ n' = .coin q ∧ q ≤ n + 1 + 16 * m ∧ j ≤ 3 ∧ k.ok = true ∧ k.sg ≤ 5 ∧ no1 x6)
    (ec_add (ec_of ev_int) (ec_draw C_law_draw (hr.mono (by omega)) ev_int (by decide) (by decide)) eq_int isN.int) (fun z hz => ?_) (by omega) (fun j m δ' n' hm hI => ?_) (fun j δ' n' hI => ?_) G.range)
  · obtain ⟨a, b, rfl, ha, hb⟩ := hz
    cases ha
    obtain ⟨t, e, t0, t1⟩ := hb
    cases e
    exact ⟨(1 + b).toNat, by congr 1; omega, by omega, .unk, .unk, .unk, .unk, k0, _, rfl, rfl, by omega, by omega, hk0, sk0, rfl⟩
  · obtain ⟨x3, x4, x5, x6, k, q, rfl, rfl, hq, hj3, hk, sk, hx6⟩ := hI
    have hdk := dep_sg k
    refine EW.nrm [_, _, _, _, _, _, _] rfl ?_
    refine ew_cons (es_parC 0 4 5 (ec_call (A := isK1) C_law_kind (hr.mono (by omega)) (eac_cons (ec_of (ev_var 1 rfl)) (eac_cons (ec_draw C_law_draw (hr.mono (by omega)) ev_int (by decide) (by decide)) eac_nil)) (fun ds h => ?_)) (ec_draw C_law_draw (hr.mono (by omega)) ev_int (by decide) (by decide)) (fun d e hd he => ?_) (by omega) (nd := nd))
    · obtain ⟨z, t, rfl, rfl, z2, t2, rfl, ⟨i, rfl, i0, i1⟩, rfl⟩ := h
      obtain ⟨u, rfl⟩ : ∃ u : Nat, i = (u : Int) := ⟨i.toNat, by omega⟩
      exact ⟨_, u, rfl, hpl, by omega, fun z ⟨a, e, h1, h2⟩ => ⟨a, e, h1, by omega⟩⟩
    obtain ⟨l, rfl, hl, sl⟩ := hd
    obtain ⟨i, rfl, i0, i1⟩ := he
    have hdl := dep_sg l
    refine ⟨.inr ⟨nl_emb l, rfl⟩, EW.nrm [_, _, _, _, _, _, _] rfl ?_⟩
    refine ew_one (es_if (k := (decide (i = 0) && notPl k)) (et_bw (eb_and (et_cmp cm_eqI (ev_var 5 rfl) ev_int) (fun _ => eb_and1 (et_val (G.isi .tuple rfl rfl rfl (ev_var 2 rfl) (hk := isTy_emb k)))))) (fun ht => ?_) (fun _ => ?_))
    · rw [Bool.and_eq_true] at ht
      have hlk := loosen_ok hk
      exact ew_one (es_set 2 (r := .dat (emb (loosen k))) (eg_call C_law_loosened (hr.mono (by omega)) (ea_cons (ev_var 2 rfl) ea_nil) ⟨k, rfl, ht.2, rfl⟩) ⟨_, _, _, _, loosen k, _, rfl, rfl, by omega, hj3, hlk.1, by omega, hx6⟩ (safe := .inr (nl_emb _)) (nd := nd))
    · refine ew_one (es_if (et_cmp cm_lt (eg_bin br_add (eg_call C_law_signs (hr.mono (by omega)) (ea_cons (ev_var 2 rfl) ea_nil) ⟨k, rfl, by omega, rfl⟩) (eg_call C_law_signs (hr.mono (by omega)) (ea_cons (ev_var 4 rfl) ea_nil) ⟨l, rfl, by omega, rfl⟩)) ev_int) (fun ht => ?_) (fun _ => ew_nil ⟨_, _, _, _, k, _, rfl, rfl, by omega, hj3, hk, sk, hx6⟩))
      have hlt : k.sg + l.sg < 3 := by have := of_decide_eq_true ht; omega
      refine ew_cons (es_set 6 (r := .dat (.list (embK [.ov (.th k l) l, .un l (.th l k), .ov l (.un k l)]))) (EV.to (EG.ev (el_lst (ea_cons (ev_tup (ea_cons ev_str (ea_cons (ev_tup (ea_cons ev_str (ea_cons (ev_var 2 rfl) (ea_cons (ev_var 4 rfl) ea_nil)))) (ea_cons (ev_var 4 rfl) ea_nil)))) (ea_cons (ev_tup (ea_cons ev_str (ea_cons (ev_var 4 rfl) (ea_cons (ev_tup (ea_cons ev_str (ea_cons (ev_var 4 rfl) (ea_cons (ev_var 2 rfl) ea_nil)))) ea_nil)))) (ea_cons (ev_tup (ea_cons ev_str (ea_cons (ev_var 4 rfl) (ea_cons (ev_tup (ea_cons ev_str (ea_cons (ev_var 2 rfl) (ea_cons (ev_var 4 rfl) ea_nil)))) ea_nil)))) ea_nil))) (small_len rfl))) rfl) (EW.nrm [_, _, _, _, _, _, _] rfl ?_) (safe := .inl (nob (of7 hx6))) (nd := nd))
      refine ew_cons (es_set 6 (r := .dat (.list (embK [.ov (.th k l) l, .un l (.th l k), .ov l (.un k l), .un (.ov l k) l, .th (.ov k l) l]))) (EV.to (EG.ev (eg_bin (br_cat (le_line (Nat.le_of_ble_eq_true rfl))) (ev_var 6 rfl) (EG.ev (el_lst (ea_cons (ev_tup (ea_cons ev_str (ea_cons (ev_tup (ea_cons ev_str (ea_cons (ev_var 4 rfl) (ea_cons (ev_var 2 rfl) ea_nil)))) (ea_cons (ev_var 4 rfl) ea_nil)))) (ea_cons (ev_tup (ea_cons ev_str (ea_cons (ev_tup (ea_cons ev_str (ea_cons (ev_var 2 rfl) (ea_cons (ev_var 4 rfl) ea_nil)))) (ea_cons (ev_var 4 rfl) ea_nil)))) ea_nil)) (small_len rfl))))) rfl) (EW.nrm [_, _, _, _, _, _, _] rfl ?_) (safe := .inl (nob rfl)) (nd := nd))
      obtain ⟨z, hz, hix⟩ := six_at (k := k) (l := l) i0 i1
      have hz6 := six_ok hk hl z hz
      exact ew_one (es_set 2 (r := .dat (emb z)) (ev_ix (EV.to (d' := .list (embK (six k l))) (EG.ev (eg_bin (br_cat (le_line (Nat.le_of_ble_eq_true rfl))) (ev_var 6 rfl) (EG.ev (el_lst (ea_cons (ev_tup (ea_cons ev_str (ea_cons (ev_var 2 rfl) (ea_cons (ev_tup (ea_cons ev_str (ea_cons (ev_var 4 rfl) (ea_cons (ev_var 4 rfl) ea_nil)))) ea_nil)))) ea_nil) (small_len rfl))))) rfl) (ev_var 5 rfl) hix) ⟨_, _, _, _, z, _, rfl, rfl, by omega, hj3, hz6.1, by omega, rfl⟩ (safe := .inr (nl_emb _)) (nd := nd))
  · obtain ⟨x3, x4, x5, x6, k, q, rfl, rfl, hq, hj3, hk, sk, hx6⟩ := hI
    exact ew_one (es_ret (ev_var 2 rfl) ⟨⟨_, rfl, hB _ ⟨k, rfl, hk, sk⟩⟩, q, rfl, by omega⟩)
end
end PU
namespace PU
open PySem PySem.Spec PyProof.Rows L2 StX MM

theorem nodes_last {D n : Nat} : ∀ {c : Chain} {a b : Kd}, Path D n c a b → (nodes a c).getLastD bot = b
  | [], a, b, h => h
  | s :: c, a, b, ⟨m, h1, h2⟩ => by
    have ih := nodes_last h2
    have e : (ends s).2 = m := by rw [h1.ends]
    show (a :: nodes (ends s).2 c).getLastD bot = b
    rw [e]
    cases c with
    | nil => exact ih
    | cons t c =>
      have ih : (m :: nodes (ends t).2 c).getLastD bot = b := ih
      show (a :: m :: nodes (ends t).2 c).getLastD bot = b
      rw [List.getLastD_cons, List.getLastD_cons]
      rw [List.getLastD_cons] at ih
      exact ih
theorem kinds_lastP {D n : Nat} {c : Chain} {a b : Kd} (hne : c ≠ []) (h : Path D n c a b) : (kindsOf c).getLastD bot = b := by rw [Path.kinds hne h]; exact nodes_last h
theorem isCh_path {D n : Nat} {c : Chain} {a b : Kd} (h : Path D n c a b) : isCh a b c = true := by
  cases c with
  | nil => exact decide_eq_true h
  | cons s c =>
    have hl := kinds_lastP (by simp) h
    obtain ⟨ks, hk⟩ := Path.head h (by simp)
    unfold isCh
    rw [hk] at hl ⊢
    show (linked (s :: c) && (decide (a = a) && decide ((a :: ks).getLastD bot = b))) = true
    rw [Path.linked h, decide_eq_true rfl, decide_eq_true hl] <;> rfl
theorem isCh_nil {a b : Kd} (h : lets a ≠ lets b) : isCh a b [] = false := decide_eq_false fun e => h (by rw [e])
theorem depth2 (x y : PyData) : (PyData.tuple [x, y]).depth = max x.depth y.depth + 1 := by show max x.depth (max y.depth 0) + 1 = _; omega
theorem depth3 (x y z : PyData) : (PyData.tuple [x, y, z]).depth = max x.depth (max y.depth z.depth) + 1 := by show max x.depth (max y.depth (max z.depth 0)) + 1 = _; omega
theorem depth4 (x y z u : PyData) : (PyData.tuple [x, y, z, u]).depth = max x.depth (max y.depth (max z.depth u.depth)) + 1 := by show max x.depth (max y.depth (max z.depth (max u.depth 0))) + 1 = _; omega
theorem depthS (s : Str) : (PyData.str s).depth = 0 := rfl
theorem depthI (s : Int) : (PyData.int s).depth = 0 := rfl
theorem depthL (ds : List PyData) : (PyData.list ds).depth = PyData.depthAll ds + 1 := rfl
theorem depD {D n : Nat} {d : Dv} {r : List Kd} {g : Kd} (h : Tl D n d r g) : (embD d).depth ≤ n + D := by
  induction h with
  | is h1 h2 => unfold embD; rw [depth2, dep_emb, depthS]; omega
  | om _ _ _ ih => unfold embD; rw [depth2, depthS]; omega
  | um _ _ _ ih => unfold embD; rw [depth2, depthS]; omega
  | tm _ _ _ _ i1 i2 => unfold embD; rw [depth3, depthS]; omega
  | ou _ _ _ _ i1 i2 => unfold embD; rw [depth4, depthS, depthI]; omega
  | uu _ _ _ _ i1 i2 => unfold embD; rw [depth4, depthS, depthI]; omega
  | tu _ _ ih => unfold embD; rw [depth3, depthS, depthI]; omega
  | ct _ _ _ i1 i2 => unfold embD; rw [depth4, depthS, depthI]; omega
theorem depS {D n : Nat} {s : MM.Step} {a b : Kd} (h : SOk D n s a b) : (embS s).depth ≤ n + D + 1 := by
  obtain ⟨u, d⟩ := s
  unfold embS
  rw [depth2, depthS]
  cases u with
  | true => have := depD (show Tl D n d [a] b from h); show max 0 (embD d).depth + 1 ≤ _; omega
  | false => have := depD (show Tl D n d [b] a from h); show max 0 (embD d).depth + 1 ≤ _; omega
theorem depC {D n : Nat} : ∀ {c : Chain} {a b : Kd}, Path D n c a b → PyData.depthAll (embC c) ≤ n + D + 1
  | [], _, _, _ => Nat.zero_le _
  | s :: c, a, b, ⟨m, h1, h2⟩ => by
    show max (embS s).depth (PyData.depthAll (embC c)) ≤ _
    have i1 := depS h1
    have i2 := depC h2
    omega

section
variable {P : Program} {w : World} {K : PySem.W.Frag} {mg : Str → Option Value} {base : Heap} {f : Addr} {fd : FuncData}

/-! ### _law_two_right -/
abbrev st_law_two_right : Stmt := top 88
theorem sc_law_two_right : FnScope ["_law_one", "_law_other", "_law_due", "_law_told", "_law_late", "_law_again"] ["_law_one", "_law_other"] (defScope st_law_two_right) := ⟨rfl, rfl, rfl, by decide +kernel, rfl, by decide +kernel, by decide +kernel⟩
def r_law_two_right : List PyData → Res → Prop := fun ds r => ∃ a b : Kd, ds = [emb a, emb b] ∧ (a.ok = true ∧ a.sg ≤ 2) ∧ (b.ok = true ∧ b.sg ≤ 2) ∧ r = .dat (.bool true)
theorem ok_law_two_right (G : Mg K mg) (C_law_letters : Cal P w K mg base 42 "_law_letters" ["_law_row"] (spR K r_law_letters)) (C_law_exact : Cal P w K mg base 61 "_law_exact" ["_law_mine", "_law_theirs"] (spR K (r_law_exact 60))) (C_law_is_chain : Cal P w K mg base 227 "_law_is_chain" ["_law_one", "_law_other", "_law_value"] (spR K r_law_is_chain)) (C_law_back_chain : Cal P w K mg base 1 "_law_back_chain" ["_law_chain_here"] (spR K r_law_back_chain)) (C_is_chain : Cal P w K mg base 177 "is_chain" ["one", "other", "value"] (spR K r_is_chain)) (C_are_alike : Cal P w K mg base 44 "are_alike" ["one", "other"] (spR K r_are_alike)) (C_chain_of : Cal P w K mg base 179 "chain_of" ["one", "other"] (spN K r_chain_of)) (D_is_chain : CalK P w K mg base 177 "is_chain" ["one", "other", "value"] (spR K r_is_chain)) (D_are_alike : CalK P w K mg base 44 "are_alike" ["one", "other"] (spR K r_are_alike)) (D_chain_of : CalK P w K mg base 179 "chain_of" ["one", "other"] (spN K r_chain_of)) (F : Fun K "_law_two_right" "_law_two_right" st_law_two_right f fd) : FnOk P w K mg base CX0 228 f fd ["_law_one", "_law_other"] (spR K r_law_two_right) := by
  refine Fun.okR F sc_law_two_right r_law_two_right (by rintro _ _ ⟨_, _, rfl, _⟩; rfl) fun cdv A outer s0 H E hr ds r h => ?_
  have nd := sc_law_two_right.nd
  have hu := hr.units
  obtain ⟨a, b, rfl, ⟨ha, sa⟩, ⟨hb, sb⟩, rfl⟩ := h
  have da := dep_sg a
  have db := dep_sg b
  have l1 := lay_embL (lets_ok ha)
  have l2 := lay_embL (lets_ok hb)
  have d1 := dep_listL (lets a)
  by_cases e : lets a = lets b
  · have hde := decide_eq_true e
    have hde2 : decide (lets b = lets a) = true := decide_eq_true e.symm
    refine ew_cons (es_set 2 (r := .dat (.bool true)) (ev_cmp (CmpR.to (cm_eq (x := .list (embL (lets a))) (y := .list (embL (lets b))) hu l1 l2 (by omega)) ((eqv_embL _ _).trans hde)) (eg_call C_law_letters (hr.mono (by omega)) (ea_cons (EG.ev (el_lst (ea_cons (ev_var 0 rfl) ea_nil) (small_len rfl))) ea_nil) ⟨a, rfl, ha, by omega, by omega, rfl⟩) (eg_call C_law_letters (hr.mono (by omega)) (ea_cons (EG.ev (el_lst (ea_cons (ev_var 1 rfl) ea_nil) (small_len rfl))) ea_nil) ⟨b, rfl, hb, by omega, by omega, rfl⟩)) (EW.nrm [_, _, _, _, _, _] rfl ?_) (nd := nd))
    refine ew_cons (es_setN 3 (en_callR (P := fun r => ∃ p ∈ words a, r = .fresh (embC (chainIn a b p))) D_chain_of (hr.mono (by omega)) (ek_cons (ev_var 1 rfl) (ek_cons (ev_var 0 rfl) ek_nil)) ⟨a, b, rfl, ⟨ha, by omega, sa⟩, ⟨hb, by omega, sb⟩, fun _ p hp => ⟨p, hp, rfl⟩, fun h => absurd e h⟩) (fun r hr' => ?_) nd)
    obtain ⟨p, hp, rfl⟩ := hr'
    obtain ⟨hpath, hlen⟩ := path_chain (words_ok ha p hp) ha hb sa sb e
    generalize chainIn a b p = c at hpath hlen
    have hv : Val c := Path.val (by omega) (by omega) hpath
    have hv2 : Val (turned c) := Path.val (by omega) (by omega) hpath.turned
    have hlen2 : (turned c).length ≤ 240 := by rw [turned_len]; exact hlen
    refine ⟨.inr (nl_embC _), EW.nrm [_, _, _, _, _, _] rfl ?_⟩
    refine ew_cons (es_ifF (et_not (et_val (eg_call C_law_exact (hr.mono (by omega)) (ea_cons (EG.ev (el_lst (ea_cons (eg_callR D_are_alike (hr.mono (by omega)) (ek_cons (ev_var 1 rfl) (ek_cons (ev_var 0 rfl) ek_nil)) ⟨a, b, rfl, ⟨ha, by omega, by omega⟩, ⟨hb, by omega, by omega⟩, by rw [hde]⟩) (ea_cons (ev_cmp (CmpR.to cm_notN rfl) (ev_var 3 rfl) ev_non) ea_nil)) (small_len rfl))) (ea_cons (EG.ev (el_lst (ea_cons (ev_var 2 rfl) (ea_cons (ev_var 2 rfl) ea_nil)) (small_len rfl))) ea_nil)) ⟨.list [.bool true, .bool true], rfl, by decide, by decide, rfl⟩))) (ew_nil ?_))
    refine ew_cons (es_ifF (et_bw (eb_andT (et_val (ev_var 2 rfl)) (eb_and1 (et_bw (eb_orF (et_not (et_val (eg_call C_law_is_chain (hr.mono (by omega)) (ea_cons (ev_var 0 rfl) (ea_cons (ev_var 1 rfl) (ea_cons (ev_var 3 rfl) ea_nil))) ⟨a, b, _, rfl, ⟨ha, by omega⟩, ⟨hb, by omega⟩, .inl ⟨c, rfl, hv, by omega, by rw [isCh_path hpath]⟩⟩))) (eb_or1 (et_cmp (CmpR.to (cm_notB (s := true)) rfl) (eg_callR D_is_chain (hr.mono (by omega)) (ek_cons (ev_var 3 rfl) (ek_cons (ev_var 1 rfl) (ek_cons (ev_var 0 rfl) ek_nil))) ⟨a, b, _, rfl, ⟨ha, by omega⟩, ⟨hb, by omega⟩, .inl ⟨c, rfl, hv, by omega, by rw [isCh_path hpath]⟩⟩) ev_bl))))))) (ew_nil ?_))
    refine ew_cons (es_ifF (et_not (et_val (ev_var 2 rfl))) (ew_nil ?_))
    refine ew_cons (es_set 4 (r := .fresh (embC (turned c))) (eg_call C_law_back_chain (hr.mono (by omega)) (ea_cons (ev_var 3 rfl) ea_nil) ⟨c, rfl, by omega, rfl⟩) (EW.nrm [_, _, _, _, _, _] rfl ?_) (safe := .inr (nl_embC _)) (nd := nd))
    refine ew_cons (es_ifF (et_bw (eb_orF (et_cmp (CmpR.to (cm_notB (s := true)) rfl) (eg_call C_is_chain (hr.mono (by omega)) (ea_cons (ev_var 1 rfl) (ea_cons (ev_var 0 rfl) (ea_cons (ev_var 4 rfl) ea_nil))) ⟨b, a, _, rfl, ⟨hb, by omega⟩, ⟨ha, by omega⟩, .inl ⟨turned c, rfl, hv2, by omega, by rw [isCh_path hpath.turned]⟩⟩) ev_bl) (eb_or1 (et_not (et_val (eg_call C_law_exact (hr.mono (by omega)) (ea_cons (eg_call C_is_chain (hr.mono (by omega)) (ea_cons (ev_var 0 rfl) (ea_cons (ev_var 1 rfl) (ea_cons (ev_var 4 rfl) ea_nil))) ⟨a, b, _, rfl, ⟨ha, by omega⟩, ⟨hb, by omega⟩, .inl ⟨turned c, rfl, hv2, by omega, rfl⟩⟩) (ea_cons (eg_call C_law_is_chain (hr.mono (by omega)) (ea_cons (ev_var 0 rfl) (ea_cons (ev_var 1 rfl) (ea_cons (ev_var 4 rfl) ea_nil))) ⟨a, b, _, rfl, ⟨ha, by omega⟩, ⟨hb, by omega⟩, .inl ⟨turned c, rfl, hv2, by omega, rfl⟩⟩) ea_nil)) ⟨.bool (isCh a b (turned c)), rfl, rfl, Nat.zero_le _, rfl⟩)))))) (ew_nil ?_))
    refine ew_cons (es_append 3 rfl ev_str (EW.nrm [_, _, _, _, _, _] rfl ?_) rfl (Nat.lt_of_lt_of_le (by rw [embC_len]; omega) (le_line (n := 1000) (by omega))))
    refine ew_cons (es_setN 5 (en_call (P := fun r => ∃ p ∈ words a, r = .fresh (embC (chainIn a b p))) C_chain_of (hr.mono (by omega)) (ea_cons (ev_var 0 rfl) (ea_cons (ev_var 1 rfl) ea_nil)) ⟨a, b, rfl, ⟨ha, by omega, sa⟩, ⟨hb, by omega, sb⟩, fun _ p hp => ⟨p, hp, rfl⟩, fun h => absurd e h⟩) (fun r hr' => ?_) nd)
    obtain ⟨p2, hp2, rfl⟩ := hr'
    obtain ⟨hpath2, hlen3⟩ := path_chain (words_ok ha p2 hp2) ha hb sa sb e
    generalize chainIn a b p2 = c2 at hpath2 hlen3
    have hv3 : Val c2 := Path.val (by omega) (by omega) hpath2
    refine ⟨.inr (nl_embC _), EW.nrm [_, _, _, _, _, _] rfl ?_⟩
    exact ew_one (es_ret (ev_andT (eg_call C_law_is_chain (hr.mono (by omega)) (ea_cons (ev_var 0 rfl) (ea_cons (ev_var 1 rfl) (ea_cons (ev_var 5 rfl) ea_nil))) ⟨a, b, _, rfl, ⟨ha, by omega⟩, ⟨hb, by omega⟩, .inl ⟨c2, rfl, hv3, by omega, by rw [isCh_path hpath2]⟩⟩) (ev_one (ev_cmp (CmpR.to (cm_isB (s := false)) rfl) (eg_call C_is_chain (hr.mono (by omega)) (ea_cons (ev_var 0 rfl) (ea_cons (ev_var 1 rfl) (ea_cons (ev_var 3 rfl) ea_nil))) ⟨a, b, _, rfl, ⟨ha, by omega⟩, ⟨hb, by omega⟩, .inr (.inl ⟨c, "more", rfl, hv, by omega, by decide +kernel, rfl⟩)⟩) ev_bl))) rfl)
  · have hde := decide_eq_false e
    have e2 : ¬ lets b = lets a := fun h => e h.symm
    have hde2 := decide_eq_false e2
    refine ew_cons (es_set 2 (r := .dat (.bool false)) (ev_cmp (CmpR.to (cm_eq (x := .list (embL (lets a))) (y := .list (embL (lets b))) hu l1 l2 (by omega)) ((eqv_embL _ _).trans hde)) (eg_call C_law_letters (hr.mono (by omega)) (ea_cons (EG.ev (el_lst (ea_cons (ev_var 0 rfl) ea_nil) (small_len rfl))) ea_nil) ⟨a, rfl, ha, by omega, by omega, rfl⟩) (eg_call C_law_letters (hr.mono (by omega)) (ea_cons (EG.ev (el_lst (ea_cons (ev_var 1 rfl) ea_nil) (small_len rfl))) ea_nil) ⟨b, rfl, hb, by omega, by omega, rfl⟩)) (EW.nrm [_, _, _, _, _, _] rfl ?_) (nd := nd))
    refine ew_cons (es_setN 3 (en_callR (P := fun r => r = .dat .none) D_chain_of (hr.mono (by omega)) (ek_cons (ev_var 1 rfl) (ek_cons (ev_var 0 rfl) ek_nil)) ⟨a, b, rfl, ⟨ha, by omega, sa⟩, ⟨hb, by omega, sb⟩, fun h => absurd h e, fun _ => rfl⟩) (fun r hr' => ?_) nd)
    subst hr'
    refine ⟨.inr rfl, EW.nrm [_, _, _, _, _, _] rfl ?_⟩
    refine ew_cons (es_ifF (et_not (et_val (eg_call C_law_exact (hr.mono (by omega)) (ea_cons (EG.ev (el_lst (ea_cons (eg_callR D_are_alike (hr.mono (by omega)) (ek_cons (ev_var 1 rfl) (ek_cons (ev_var 0 rfl) ek_nil)) ⟨a, b, rfl, ⟨ha, by omega, by omega⟩, ⟨hb, by omega, by omega⟩, by rw [hde]⟩) (ea_cons (ev_cmp (CmpR.to cm_notN rfl) (ev_var 3 rfl) ev_non) ea_nil)) (small_len rfl))) (ea_cons (EG.ev (el_lst (ea_cons (ev_var 2 rfl) (ea_cons (ev_var 2 rfl) ea_nil)) (small_len rfl))) ea_nil)) ⟨.list [.bool false, .bool false], rfl, by decide, by decide, rfl⟩))) (ew_nil ?_))
    refine ew_cons (es_ifF (et_bw (eb_andF (et_val (ev_var 2 rfl)))) (ew_nil ?_))
    exact ew_cons (es_ifT (et_not (et_val (ev_var 2 rfl))) (ew_one (es_ret (ev_andT (ev_cmp (CmpR.to (cm_isB (s := false)) rfl) (eg_call C_are_alike (hr.mono (by omega)) (ea_cons (ev_var 1 rfl) (ea_cons (ev_var 0 rfl) ea_nil)) ⟨b, a, rfl, ⟨hb, by omega, by omega⟩, ⟨ha, by omega, by omega⟩, by rw [hde2]⟩) ev_bl) (ev_one (ev_cmp (CmpR.to (cm_isB (s := false)) rfl) (eg_call C_is_chain (hr.mono (by omega)) (ea_cons (ev_var 0 rfl) (ea_cons (ev_var 1 rfl) (ea_cons (EG.ev (el_lst ea_nil (small_len rfl))) ea_nil))) ⟨a, b, _, rfl, ⟨ha, by omega⟩, ⟨hb, by omega⟩, .inl ⟨[], rfl, fun s h => (nomatch h), Nat.zero_le _, by rw [isCh_nil e]⟩⟩) ev_bl))) rfl)))
end
end PU
namespace PU
open PySem PySem.Spec PyProof.Rows L2 StX MM

theorem exD_noD : ∀ {d : PyData}, exD d = true → noD d = true ∧ big d = true
  | .none, h => by cases h
  | .bool _, _ => ⟨rfl, rfl⟩
  | .int _, _ => ⟨rfl, rfl⟩
  | .str _, _ => ⟨rfl, rfl⟩
  | .dict _, h => by cases h
  | .list ds, h => by
    have h : (decide (ds.length ≤ 1000) && exDs ds) = true := h
    rw [Bool.and_eq_true] at h
    have ih : noDs ds = true ∧ bigAll ds = true := exDs_noD h.2
    refine ⟨ih.1, ?_⟩
    show (decide (ds.length ≤ 1000) && bigAll ds) = true
    rw [h.1, ih.2] <;> rfl
  | .tuple ds, h => by
    have h : (decide (ds.length ≤ 1000) && exDs ds) = true := h
    rw [Bool.and_eq_true] at h
    have ih : noDs ds = true ∧ bigAll ds = true := exDs_noD h.2
    refine ⟨ih.1, ?_⟩
    show (decide (ds.length ≤ 1000) && bigAll ds) = true
    rw [h.1, ih.2] <;> rfl
where
  exDs_noD : ∀ {ds : List PyData}, exDs ds = true → noDs ds = true ∧ bigAll ds = true
  | [], _ => ⟨rfl, rfl⟩
  | d :: ds, h => by
    have h : (exD d && exDs ds) = true := h
    rw [Bool.and_eq_true] at h
    have i1 := exD_noD h.1
    have i2 := exDs_noD h.2
    constructor
    · show (noD d && noDs ds) = true
      rw [i1.1, i2.1] <;> rfl
    · show (big d && bigAll ds) = true
      rw [i1.2, i2.2] <;> rfl
theorem exD_list2 {x y : PyData} (hx : exD x = true) (hy : exD y = true) : exD (.list [x, y]) = true := by
  show (true && (exD x && (exD y && true))) = true
  rw [hx, hy] <;> rfl
theorem Val.app {c e : Chain} (h : Val c) (h2 : Val e) : Val (c ++ e) := fun s hs => (List.mem_append.mp hs).elim (h s) (h2 s)
theorem Val.take {c : Chain} (h : Val c) (t : Nat) : Val (c.take t) := fun s hs => h s (List.mem_of_mem_take hs)
theorem Val.drop {c : Chain} (h : Val c) (t : Nat) : Val (c.drop t) := fun s hs => h s (List.mem_of_mem_drop hs)
theorem Val.rev {c : Chain} (h : Val c) : Val c.reverse := fun s hs => h s (List.mem_reverse.mp hs)
theorem Val.one {D n : Nat} {s : MM.Step} {a b : Kd} (hD : D ≤ 40) (hn : n ≤ 130) (h : SOk D n s a b) : Val [s] := fun t ht => by
  rw [List.mem_singleton] at ht
  subst ht
  exact ⟨a, b, h.mono hD hn⟩
theorem Val.flip {s : MM.Step} (h : ∃ a b, SOk 40 130 s a b) : Val [MM.flip s] := fun t ht => by
  rw [List.mem_singleton] at ht
  subst ht
  obtain ⟨a, b, h⟩ := h
  exact ⟨b, a, h.flip⟩
theorem embC_drop (c : Chain) (t : Nat) : cutD (embC c) (some ((t : Int) + 1)) none = embC (c.drop (t + 1)) := by
  rw [show ((t : Int) + 1) = ((t + 1 : Nat) : Int) from rfl, cut_from]
  unfold embC
  rw [List.map_drop]
theorem embC_revC (c : Chain) : (embC c).reverse = embC c.reverse := by unfold embC; rw [List.map_reverse]
theorem embC_tl1 {c : Chain} (h : c ≠ []) : ∃ s, s ∈ c ∧ cutD (embC c) (some (-1)) none = embC [s] := by
  rcases List.eq_nil_or_concat c with rfl | ⟨l, x, rfl⟩
  · exact absurd rfl h
  · refine ⟨x, by simp, ?_⟩
    rw [List.concat_eq_append, embC_snoc, cut_last] <;> rfl
theorem ix_embK {ks : List Kd} {t : Nat} {k : Kd} (h : ks[t]? = some k) : ixD (.list (embK ks)) (t : Int) = some (emb k) := atI_nat (by unfold embK; rw [List.getElem?_map, h] <;> rfl)
theorem ix_embC {c : Chain} {t : Nat} {s : MM.Step} (h : c[t]? = some s) : ixD (.list (embC c)) (t : Int) = some (embS s) := atI_nat (by unfold embC; rw [List.getElem?_map, h] <;> rfl)
theorem kinds_len {c : Chain} (h : c ≠ []) : (kindsOf c).length = c.length + 1 := by
  cases c with
  | nil => exact absurd rfl h
  | cons s c => show ((s :: c).map _).length + 1 = _; rw [List.length_map]
theorem nodes_dep {D n : Nat} : ∀ {c : Chain} {a b : Kd}, Path D n c a b → a.dep ≤ D → ∀ k ∈ nodes a c, k.dep ≤ D
  | [], a, b, _, ha, k, hk => by
    have hk : k ∈ [a] := hk
    rw [List.mem_singleton] at hk
    subst hk; exact ha
  | s :: c, a, b, ⟨m, h1, h2⟩, ha, k, hk => by
    have hk : k ∈ a :: nodes (ends s).2 c := hk
    have e : (ends s).2 = m := by rw [h1.ends]
    rw [e] at hk
    rcases List.mem_cons.mp hk with rfl | hk
    · exact ha
    · exact nodes_dep h2 h1.good.2.2 k hk
/-- what is put before the judges -/
def OkV (v : PyData) : Prop := (∃ c : Chain, v = .list (embC c) ∧ Val c ∧ c.length ≤ 1000) ∨ (∃ c : Chain, v = .tuple (embC c) ∧ Val c ∧ c ≠ [])
theorem OkV.lst {c : Chain} (h : Val c) (hl : c.length ≤ 1000) : OkV (.list (embC c)) := .inl ⟨c, rfl, h, hl⟩

theorem of16 {d1 d2 d3 d4 d5 d6 d7 d8 d9 d10 d11 d12 : PyData} {x y z : Slot} (hx : no1 x) (hy : no1 y) (hz : no1 z) : ownFree [.purse, .dat d1, .dat d2, .dat d3, .dat d4, .dat d5, .dat d6, .dat d7, .dat d8, .dat d9, .dat d10, .dat d11, .dat d12, x, y, z] = true := by
  show (true && (true && (true && (true && (true && (true && (true && (true && (true && (true && (true && (true && (true && (!x.isOwn && (!y.isOwn && (!z.isOwn && true)))))))))))))))) = true
  rw [show x.isOwn = false from hx, show y.isOwn = false from hy, show z.isOwn = false from hz] <;> rfl
section
variable {P : Program} {w : World} {K : PySem.W.Frag} {mg : Str → Option Value} {base : Heap} {f : Addr} {fd : FuncData}

/-! ### _law_drawn_right -/
abbrev st_law_drawn_right : Stmt := top 89
theorem sc_law_drawn_right : FnScope ["_law_purse_here", "_law_plains_here", "_law_chain_here", "_law_kinds", "_law_kept", "_law_told", "_law_one", "_law_other", "_law_spot", "_law_step", "_law_way", "_law_derivation", "_law_values", "_law_value", "_law_first", "_law_last"] ["_law_purse_here", "_law_plains_here"] (defScope st_law_drawn_right) := ⟨rfl, rfl, rfl, by decide +kernel, rfl, by decide +kernel, by decide +kernel⟩
def r_law_drawn_right : List PyData → (PyData → Prop) → Prop := fun ds B => ∃ pl : PyData, ds = [pl] ∧ isP pl ∧ B (.bool true)
theorem ok_law_drawn_right (G : Mg K mg) (C_law_draw : Cal P w K mg base 2 "_law_draw" ["_law_purse_here", "_law_many"] (spC K 1 r_law_draw)) (C_law_chain : Cal P w K mg base 227 "_law_chain" ["_law_purse_here", "_law_plains_here", "_law_many"] (spC K 120 r_law_chain)) (C_law_along : Cal P w K mg base 226 "_law_along" ["_law_value"] (spR K r_law_along)) (C_law_same : Cal P w K mg base 61 "_law_same" ["_law_thing"] (spR K (r_law_same 60))) (C_law_exact : Cal P w K mg base 61 "_law_exact" ["_law_mine", "_law_theirs"] (spR K (r_law_exact 60))) (C_law_up_step : Cal P w K mg base 7 "_law_up_step" ["_law_purse_here", "_law_plains_here", "_law_kind_here"] (spC K 15 r_law_up_step)) (C_law_is_chain : Cal P w K mg base 227 "_law_is_chain" ["_law_one", "_law_other", "_law_value"] (spR K r_law_is_chain)) (C_law_back_chain : Cal P w K mg base 1 "_law_back_chain" ["_law_chain_here"] (spR K r_law_back_chain)) (C_is_chain : Cal P w K mg base 177 "is_chain" ["one", "other", "value"] (spR K r_is_chain)) (C_are_alike : Cal P w K mg base 44 "are_alike" ["one", "other"] (spR K r_are_alike)) (C_kinds_along : Cal P w K mg base 178 "kinds_along" ["chain"] (spR K r_kinds_along)) (D_kinds_along : CalK P w K mg base 178 "kinds_along" ["chain"] (spR K r_kinds_along)) (F : Fun K "_law_drawn_right" "_law_drawn_right" st_law_drawn_right f fd) : FnOk P w K mg base CX0 228 f fd ["_law_purse_here", "_law_plains_here"] (spC K 140 r_law_drawn_right) := by
  refine Fun.okC F sc_law_drawn_right 140 r_law_drawn_right (by rintro _ _ ⟨_, rfl, _⟩; rfl) (by decide) fun cdv A outer s0 H E hr ds B n h hcap => ?_
  have nd := sc_law_drawn_right.nd
  have hu := hr.units
  obtain ⟨pl, rfl, hpl, hB⟩ := h
  show EW _ _ [.purse, .dat pl, .unk, .unk, .unk, .unk, .unk, .unk, .unk, .unk, .unk, .unk, .unk, .unk, .unk, .unk] _ _ _
  refine ew_cons (es_setC 0 2 (ec_call (A := isLC) C_law_chain (hr.mono (by omega)) (eac_cons (ec_of (ev_var 1 rfl)) (eac_cons (ec_add (ec_of ev_int) (ec_draw C_law_draw (hr.mono (by omega)) ev_int (by decide) (by decide)) eq_int isN.int) eac_nil)) (fun ds h => ?_)) (fun d hd => ?_) (by omega) (nd := nd))
  · obtain ⟨z, t, rfl, rfl, z2, t2, rfl, ⟨i, j, rfl, hi, ⟨l, el, l0, l1⟩⟩, rfl⟩ := h
    cases hi
    cases el
    obtain ⟨m, rfl⟩ : ∃ m : Nat, j = (m : Int) := ⟨j.toNat, by omega⟩
    exact ⟨_, m + 1, by congr 3; omega, hpl, by omega, by omega, fun z hz => hz⟩
  obtain ⟨c, a, b, rfl, hc, hne⟩ := hd
  refine ⟨.inl (nob rfl), EW.nrm [_, _, _, _, _, _, _, _, _, _, _, _, _, _, _, _] rfl ?_⟩
  have hp := hc.path
  have hlen := hc.len
  have hpos := List.length_pos_iff.mpr hne
  obtain ⟨ha, sa⟩ := hc.aok
  obtain ⟨hb, sb⟩ := hc.kok
  have da := dep_sg a
  have db := dep_sg b
  have hv : Val c := Path.val (by omega) (by omega) hp
  have hv2 : Val (turned c) := Path.val (by omega) (by omega) hp.turned
  have hlk := Path.linked hp
  have hkl := kinds_len hne
  have hko := kinds_ok hv
  have hlast := kinds_lastP hne hp
  obtain ⟨ks, hk⟩ := Path.head hp hne
  rw [hk] at hkl hko hlast
  have hdc := depC hp
  have hdk : PyData.depthAll (embK (a :: ks)) ≤ 40 := depAll_embK fun k h => (hko k h).2
  have xC : exD (.list (embC c)) = true := exD_embC (by omega)
  have xK : exD (.list (embK (a :: ks))) = true := exD_embK (by omega)
  have hnb := exD_noD xC
  refine ew_cons (es_par 3 4 (r1 := .dat (.list (embK (a :: ks)))) (r2 := .dat (.list (embC c))) (eg_call C_law_along (hr.mono (by omega)) (ea_cons (ev_var 2 rfl) ea_nil) (.inl ⟨c, rfl, hv, by omega, hne, hlk, by rw [hk]⟩)) (eg_call C_law_same (hr.mono (by omega)) (ea_cons (ev_var 2 rfl) ea_nil) ⟨_, rfl, hnb.1, by rw [depthL]; omega, hnb.2, rfl⟩) (EW.nrm [_, _, _, _, _, _, _, _, _, _, _, _, _, _, _, _] rfl ?_) (nd := nd))
  refine ew_cons (es_set 5 (r := .fresh (embK (a :: ks))) (eg_callR D_kinds_along (hr.mono (by omega)) (ek_cons (ev_var 2 rfl) ek_nil) ⟨c, rfl, hv, by omega, hne, hlk, by rw [hk]⟩) (EW.nrm [_, _, _, _, _, _, _, _, _, _, _, _, _, _, _, _] rfl ?_) (safe := .inr (nl_embK _)) (nd := nd))
  refine ew_cons (es_ifF (et_not (et_val (eg_call C_law_exact (hr.mono (by omega)) (ea_cons (EG.ev (el_lst (ea_cons (ev_var 5 rfl) (ea_cons (ev_var 2 rfl) ea_nil)) (small_len rfl))) (ea_cons (EG.ev (el_lst (ea_cons (ev_var 3 rfl) (ea_cons (ev_var 4 rfl) ea_nil)) (small_len rfl))) ea_nil)) ⟨.list [.list (embK (a :: ks)), .list (embC c)], rfl, exD_list2 xK xC, by show max (PyData.depthAll (embK (a :: ks)) + 1) (max (PyData.depthAll (embC c) + 1) 0) + 1 ≤ 60; omega, rfl⟩))) (ew_nil ?_))
  refine ew_cons (es_append 5 rfl ev_str (EW.nrm [_, _, _, _, _, _, _, _, _, _, _, _, _, _, _, _] rfl ?_) rfl (Nat.lt_of_lt_of_le (by rw [embK_len]; omega) (le_line (n := 1000) (by omega))))
  refine ew_freeze 5 rfl (EW.nrm [_, _, _, _, _, _, _, _, _, _, _, _, _, _, _, _] rfl ?_)
  refine ew_cons (es_par3C 0 6 7 8 (d1 := emb a) (d2 := emb b) (ev_ix (ev_var 3 rfl) ev_int (by exact at_zero _ _)) (ev_ix (ev_var 3 rfl) (ev_neg ev_int) ((ix_lastK _ (by simp)).trans (by rw [hlast]))) (ec_draw C_law_draw (hr.mono (by omega)) (eg_callB (cr_lenL trivial) (ea_cons (ev_var 2 rfl) ea_nil) G.len boot_len) (by rw [embC_len]; omega) (by rw [embC_len]; omega)) (fun d3 h3 => ?_) ⟨nl_emb a, nl_emb b⟩ (by omega) (nd := nd))
  obtain ⟨j, rfl, j0, j1⟩ := h3
  rw [embC_len] at j1
  obtain ⟨t, rfl⟩ : ∃ t : Nat, j = (t : Int) := ⟨j.toNat, by omega⟩
  have ht : t < c.length := by omega
  refine ⟨rfl, EW.nrm [_, _, _, _, _, _, _, _, _, _, _, _, _, _, _, _] rfl ?_⟩
  refine ew_cons (es_ifF (et_bw (eb_orF (et_cmp (CmpR.to (cm_notB (s := true)) rfl) (eg_call C_is_chain (hr.mono (by omega)) (ea_cons (ev_var 6 rfl) (ea_cons (ev_var 7 rfl) (ea_cons (ev_var 2 rfl) ea_nil))) ⟨a, b, _, rfl, ⟨ha, by omega⟩, ⟨hb, by omega⟩, .inl ⟨c, rfl, hv, by omega, by rw [isCh_path hp]⟩⟩) ev_bl) (eb_or1 (et_cmp (CmpR.to (cm_notB (s := true)) rfl) (eg_call C_are_alike (hr.mono (by omega)) (ea_cons (ev_var 6 rfl) (ea_cons (ev_var 7 rfl) ea_nil)) ⟨a, b, rfl, ⟨ha, by omega, by omega⟩, ⟨hb, by omega, by omega⟩, by rw [decide_eq_true (Path.lets hp)]⟩) ev_bl)))) (ew_nil ?_))
  obtain ⟨k, hkt⟩ : ∃ k, (a :: ks)[t]? = some k := ⟨_, List.getElem?_eq_getElem (by omega)⟩
  have hkk := hko k (List.mem_of_getElem? hkt)
  refine ew_cons (es_setC 0 9 (ec_call (A := isUp k) C_law_up_step (hr.mono (by omega)) (eac_cons (ec_of (ev_var 1 rfl)) (eac_cons (ec_of (ev_ix (ev_var 3 rfl) (ev_var 8 rfl) (ix_embK hkt))) eac_nil)) (fun ds h => ?_)) (fun d hd => ?_) (by omega) (nd := nd))
  · obtain ⟨z, r, rfl, rfl, z2, r2, rfl, rfl, rfl⟩ := h
    exact ⟨_, k, rfl, hpl, hkk.1, fun z hz => hz⟩
  obtain ⟨s, k2, rfl, hs⟩ := hd
  refine ⟨.inr (nl_embS s), EW.nrm [_, _, _, _, _, _, _, _, _, _, _, _, _, _, _, _] rfl ?_⟩
  have hkd : k.dep ≤ 12 := by
    have e := Path.kinds hne hp
    rw [hk] at e
    have hm := List.mem_of_getElem? hkt
    rw [e] at hm
    exact nodes_dep hp (by omega) k hm
  have hvs : Val [s] := Val.one (by omega) (by omega) hs
  obtain ⟨⟨u, d⟩, hst⟩ : ∃ s, c[t]? = some s := ⟨_, List.getElem?_eq_getElem ht⟩
  have hvf : Val [MM.flip (u, d)] := Val.flip (hv _ (List.mem_of_getElem? hst))
  refine ew_cons (es_unp 10 11 (d1 := .str (way u)) (d2 := embD d) (ev_ix (ev_var 2 rfl) (ev_var 8 rfl) (ix_embC hst)) (EW.nrm [_, _, _, _, _, _, _, _, _, _, _, _, _, _, _, _] rfl ?_) (safe := .inr ⟨rfl, nl_embD d⟩) (nd := nd))
  obtain ⟨sl, hsl, hcl⟩ := embC_tl1 hne
  have hvl : Val [sl] := fun x hx => by rw [List.mem_singleton] at hx; subst hx; exact hv _ hsl
  refine ew_cons (es_set 12 (r := .dat (.list [.list (embC (c.take t ++ c.drop (t + 1))), .list (embC (c ++ [sl])), .list (embC (turned c))])) (EG.ev (el_lst (ea_cons (EG.ev (el_catC (by simp only [List.length_append, List.length_take, List.length_drop, List.length_cons, List.length_nil, turned_len, List.length_reverse]; omega) (EG.ev (el_slice (ev_var 2 rfl) eo_none (eo_some (ev_var 8 rfl)) (embC_take c t))) (EG.ev (el_slice (ev_var 2 rfl) (eo_some (eg_bin br_add (ev_var 8 rfl) ev_int)) eo_none (embC_drop c t))))) (ea_cons (EG.ev (el_catC (by simp only [List.length_append, List.length_take, List.length_drop, List.length_cons, List.length_nil, turned_len, List.length_reverse]; omega) (ev_var 2 rfl) (EG.ev (el_slice (ev_var 2 rfl) (eo_some (ev_neg ev_int)) eo_none hcl)))) (ea_cons (EG.ev (eg_call C_law_back_chain (hr.mono (by omega)) (ea_cons (ev_var 2 rfl) ea_nil) ⟨c, rfl, by omega, rfl⟩)) ea_nil))) (small_len rfl))) (EW.nrm [_, _, _, _, _, _, _, _, _, _, _, _, _, _, _, _] rfl ?_) (safe := .inl (nob rfl)) (nd := nd))
  obtain ⟨vs, hvs0, hvl0, hvs1⟩ : ∃ vs : List PyData, vs = [.list (embC (c.take t ++ c.drop (t + 1))), .list (embC (c ++ [sl])), .list (embC (turned c))] ∧ vs.length ≤ 3 ∧ ∀ v ∈ vs, OkV v := ⟨_, rfl, Nat.le_refl _, fun v hv' => by
    simp only [List.mem_cons, List.not_mem_nil, or_false] at hv'
    rcases hv' with rfl | rfl | rfl
    · exact .lst ((hv.take t).app (hv.drop _)) (by simp only [List.length_append, List.length_take, List.length_drop, List.length_cons, List.length_nil, turned_len, List.length_reverse]; omega)
    · exact .lst (hv.app hvl) (by simp only [List.length_append, List.length_take, List.length_drop, List.length_cons, List.length_nil, turned_len, List.length_reverse]; omega)
    · exact .lst hv2 (by simp only [List.length_append, List.length_take, List.length_drop, List.length_cons, List.length_nil, turned_len, List.length_reverse]; omega)⟩
  rw [← hvs0]
  clear hvs0
  refine ew_cons (es_set 12 (r := .dat (.list (vs ++ [.list (embC (c ++ turned c)), .list (embC c.reverse), .list (embC (c ++ [s]))]))) (EG.ev (eg_bin (br_cat (le_line (by simp only [List.length_append, List.length_cons, List.length_nil]; omega))) (ev_var 12 rfl) (EG.ev (el_lst (ea_cons (EG.ev (el_catC (by simp only [List.length_append, List.length_take, List.length_drop, List.length_cons, List.length_nil, turned_len, List.length_reverse]; omega) (ev_var 2 rfl) (EG.ev (eg_call C_law_back_chain (hr.mono (by omega)) (ea_cons (ev_var 2 rfl) ea_nil) ⟨c, rfl, by omega, rfl⟩)))) (ea_cons (EG.ev (el_rev (ev_var 2 rfl) (embC_revC c))) (ea_cons (EG.ev (el_catC (by simp only [List.length_append, List.length_take, List.length_drop, List.length_cons, List.length_nil, turned_len, List.length_reverse]; omega) (ev_var 2 rfl) (EG.ev (EG.asC [s] (el_lst (ea_cons (ev_var 9 rfl) ea_nil) (small_len rfl)) rfl)))) ea_nil))) (small_len rfl))))) (EW.nrm [_, _, _, _, _, _, _, _, _, _, _, _, _, _, _, _] rfl ?_) (safe := .inl (nob rfl)) (nd := nd))
  obtain ⟨ws, hvs0, hwl0, hws1⟩ : ∃ ws : List PyData, ws = vs ++ [.list (embC (c ++ turned c)), .list (embC c.reverse), .list (embC (c ++ [s]))] ∧ ws.length ≤ 6 ∧ ∀ v ∈ ws, OkV v := ⟨_, rfl, by simp only [List.length_append, List.length_cons, List.length_nil]; omega, fun v hv' => by
    rcases List.mem_append.mp hv' with hv' | hv'
    · exact hvs1 v hv'
    simp only [List.mem_cons, List.not_mem_nil, or_false] at hv'
    rcases hv' with rfl | rfl | rfl
    · exact .lst (hv.app hv2) (by simp only [List.length_append, List.length_take, List.length_drop, List.length_cons, List.length_nil, turned_len, List.length_reverse]; omega)
    · exact .lst hv.rev (by simp only [List.length_append, List.length_take, List.length_drop, List.length_cons, List.length_nil, turned_len, List.length_reverse]; omega)
    · exact .lst (hv.app hvs) (by simp only [List.length_append, List.length_take, List.length_drop, List.length_cons, List.length_nil, turned_len, List.length_reverse]; omega)⟩
  rw [← hvs0]
  clear hvs0 hvs1 hvl0 vs
  refine ew_cons (es_set 12 (r := .dat (.list (ws ++ [.list (embC (c.take t ++ [s] ++ c.drop (t + 1)))]))) (EG.ev (eg_bin (br_cat (le_line (by simp only [List.length_append, List.length_cons, List.length_nil]; omega))) (ev_var 12 rfl) (EG.ev (el_lst (ea_cons (EG.ev (el_catC (by simp only [List.length_append, List.length_take, List.length_drop, List.length_cons, List.length_nil, turned_len, List.length_reverse]; omega) (EG.ev (el_catC (by simp only [List.length_append, List.length_take, List.length_drop, List.length_cons, List.length_nil, turned_len, List.length_reverse]; omega) (EG.ev (el_slice (ev_var 2 rfl) eo_none (eo_some (ev_var 8 rfl)) (embC_take c t))) (EG.ev (EG.asC [s] (el_lst (ea_cons (ev_var 9 rfl) ea_nil) (small_len rfl)) rfl)))) (EG.ev (el_slice (ev_var 2 rfl) (eo_some (eg_bin br_add (ev_var 8 rfl) ev_int)) eo_none (embC_drop c t))))) ea_nil) (small_len rfl))))) (EW.nrm [_, _, _, _, _, _, _, _, _, _, _, _, _, _, _, _] rfl ?_) (safe := .inl (nob rfl)) (nd := nd))
  obtain ⟨vs, hvs0, hvl0, hvs1⟩ : ∃ vs : List PyData, vs = ws ++ [.list (embC (c.take t ++ [s] ++ c.drop (t + 1)))] ∧ vs.length ≤ 7 ∧ ∀ v ∈ vs, OkV v := ⟨_, rfl, by simp only [List.length_append, List.length_cons, List.length_nil]; omega, fun v hv' => by
    rcases List.mem_append.mp hv' with hv' | hv'
    · exact hws1 v hv'
    rw [List.mem_singleton] at hv'
    subst hv'
    exact .lst (((hv.take t).app hvs).app (hv.drop _)) (by simp only [List.length_append, List.length_take, List.length_drop, List.length_cons, List.length_nil, turned_len, List.length_reverse]; omega)⟩
  rw [← hvs0]
  clear hvs0 hws1 hwl0 ws
  refine ew_cons (es_set 12 (r := .dat (.list (vs ++ [.list (embC (c.take t ++ [MM.flip (u, d)] ++ c.drop (t + 1))), .tuple (embC c)]))) (EG.ev (eg_bin (br_cat (le_line (by simp only [List.length_append, List.length_cons, List.length_nil]; omega))) (ev_var 12 rfl) (EG.ev (el_lst (ea_cons (EG.ev (el_catC (by simp only [List.length_append, List.length_take, List.length_drop, List.length_cons, List.length_nil, turned_len, List.length_reverse]; omega) (EG.ev (el_catC (by simp only [List.length_append, List.length_take, List.length_drop, List.length_cons, List.length_nil, turned_len, List.length_reverse]; omega) (EG.ev (el_slice (ev_var 2 rfl) eo_none (eo_some (ev_var 8 rfl)) (embC_take c t))) (EG.ev (EG.asC [MM.flip (u, d)] (el_lst (ea_cons (by cases u with
        | true => exact EV.to (ev_tup (ea_cons (ev_dict2 (v := "back") (hr1 hr) (ev_var 10 rfl) vkback) (ea_cons (ev_var 11 rfl) ea_nil))) rfl
        | false => exact EV.to (ev_tup (ea_cons (ev_dict2 (v := "on") (hr1 hr) (ev_var 10 rfl) vkon) (ea_cons (ev_var 11 rfl) ea_nil))) rfl) ea_nil) (small_len rfl)) rfl)))) (EG.ev (el_slice (ev_var 2 rfl) (eo_some (eg_bin br_add (ev_var 8 rfl) ev_int)) eo_none (embC_drop c t))))) (ea_cons (eg_callTy cr_tupleL (ea_cons (ev_var 2 rfl) ea_nil) G.tuple rfl) ea_nil)) (small_len rfl))))) (EW.nrm [_, _, _, _, _, _, _, _, _, _, _, _, _, _, _, _] rfl ?_) (safe := .inl (nob rfl)) (nd := nd))
  obtain ⟨ws, hvs0, hwl0, hws1⟩ : ∃ ws : List PyData, ws = vs ++ [.list (embC (c.take t ++ [MM.flip (u, d)] ++ c.drop (t + 1))), .tuple (embC c)] ∧ ws.length ≤ 9 ∧ ∀ v ∈ ws, OkV v := ⟨_, rfl, by simp only [List.length_append, List.length_cons, List.length_nil]; omega, fun v hv' => by
    rcases List.mem_append.mp hv' with hv' | hv'
    · exact hvs1 v hv'
    simp only [List.mem_cons, List.not_mem_nil, or_false] at hv'
    rcases hv' with rfl | rfl
    · exact .lst (((hv.take t).app hvf).app (hv.drop _)) (by simp only [List.length_append, List.length_take, List.length_drop, List.length_cons, List.length_nil, turned_len, List.length_reverse]; omega)
    · exact .inr ⟨c, rfl, hv, hne⟩⟩
  rw [← hvs0]
  clear hvs0 hvs1 hvl0 vs
  refine ew_cons (es_for (ds := ws) 13 (fun m δ' n' => ∃ x y z : Slot, δ' = [.purse, .dat pl, .dat (.list (embC c)), .dat (.list (embK (a :: ks))), .dat (.list (embC c)), .dat (.list (embK (a :: ks) ++ [.str "more"])), .dat (emb a), .dat (emb b), .dat (.int (t : Int)), .dat (embS s), .dat (.str (way u)), .dat (embD d), .dat (.list ws), x, y, z] ∧ (∃ q, n' = .coin q ∧ q ≤ n + 140) ∧ no1 x ∧ no1 y ∧ no1 z)
    (ei_list (ev_var 12 rfl)) ⟨.unk, .unk, .unk, rfl, ⟨_, rfl, by omega⟩, rfl, rfl, rfl⟩ (fun m v δ' n' hdm hI => ?_) (fun δ' n' hI => ?_) nd)
  · obtain ⟨x, y, z, rfl, ⟨q, rfl, hq⟩, hx, hy, hz⟩ := hI
    have hov := hws1 v (List.mem_of_getElem? hdm)
    refine ⟨.inl (nob (of16 hx hy hz)), EW.nrm [_, _, _, _, _, _, _, _, _, _, _, _, _, _, _, _] rfl ?_⟩
    refine ew_one (es_for2 (ds := [.tuple [emb a, emb b], .tuple [emb b, emb a], .tuple [emb a, emb a]]) 14 15 (fun m' δ' n' => ∃ y z : Slot, δ' = [.purse, .dat pl, .dat (.list (embC c)), .dat (.list (embK (a :: ks))), .dat (.list (embC c)), .dat (.list (embK (a :: ks) ++ [.str "more"])), .dat (emb a), .dat (emb b), .dat (.int (t : Int)), .dat (embS s), .dat (.str (way u)), .dat (embD d), .dat (.list ws), .dat v, y, z] ∧ (∃ q, n' = .coin q ∧ q ≤ n + 140) ∧ no1 y ∧ no1 z)
      (ei_tup (ev_tup (ea_cons (ev_tup (ea_cons (ev_var 6 rfl) (ea_cons (ev_var 7 rfl) ea_nil))) (ea_cons (ev_tup (ea_cons (ev_var 7 rfl) (ea_cons (ev_var 6 rfl) ea_nil))) (ea_cons (ev_tup (ea_cons (ev_var 6 rfl) (ea_cons (ev_var 6 rfl) ea_nil))) ea_nil))))) ⟨y, z, rfl, ⟨q, rfl, hq⟩, hy, hz⟩ (fun m' dd δ' n' hdm' hI => ?_) (fun δ' n' hI => ?_) nd)
    · obtain ⟨y, z, rfl, ⟨q, rfl, hq⟩, hy, hz⟩ := hI
      obtain ⟨x1, x2, rfl, h1, h2⟩ : ∃ x1 x2 : Kd, dd = .tuple [emb x1, emb x2] ∧ (x1.ok = true ∧ x1.dep ≤ 40) ∧ (x2.ok = true ∧ x2.dep ≤ 40) := by
        have hm := List.mem_of_getElem? hdm'
        simp only [List.mem_cons, List.not_mem_nil, or_false] at hm
        rcases hm with rfl | rfl | rfl
        · exact ⟨a, b, rfl, ⟨ha, by omega⟩, ⟨hb, by omega⟩⟩
        · exact ⟨b, a, rfl, ⟨hb, by omega⟩, ⟨ha, by omega⟩⟩
        · exact ⟨a, a, rfl, ⟨ha, by omega⟩, ⟨ha, by omega⟩⟩
      refine ⟨_, _, rfl, .inr ⟨nl_emb x1, nl_emb x2⟩, EW.nrm [_, _, _, _, _, _, _, _, _, _, _, _, _, _, _, _] rfl ?_⟩
      rcases hov with ⟨cv, rfl, hcv, hcm⟩ | ⟨cv, rfl, hcv, hcm⟩
      · exact ew_one (es_ifF (et_not (et_val (eg_call C_law_exact (hr.mono (by omega)) (ea_cons (eg_call C_is_chain (hr.mono (by omega)) (ea_cons (ev_var 14 rfl) (ea_cons (ev_var 15 rfl) (ea_cons (ev_var 13 rfl) ea_nil))) ⟨x1, x2, _, rfl, h1, h2, .inl ⟨cv, rfl, hcv, hcm, rfl⟩⟩) (ea_cons (eg_call C_law_is_chain (hr.mono (by omega)) (ea_cons (ev_var 14 rfl) (ea_cons (ev_var 15 rfl) (ea_cons (ev_var 13 rfl) ea_nil))) ⟨x1, x2, _, rfl, h1, h2, .inl ⟨cv, rfl, hcv, hcm, rfl⟩⟩) ea_nil)) ⟨.bool (isCh x1 x2 cv), rfl, rfl, Nat.zero_le _, rfl⟩))) (ew_nil ⟨_, _, rfl, ⟨q, rfl, hq⟩, rfl, rfl⟩))
      · exact ew_one (es_ifF (et_not (et_val (eg_call C_law_exact (hr.mono (by omega)) (ea_cons (eg_call C_is_chain (hr.mono (by omega)) (ea_cons (ev_var 14 rfl) (ea_cons (ev_var 15 rfl) (ea_cons (ev_var 13 rfl) ea_nil))) ⟨x1, x2, _, rfl, h1, h2, .inr (.inr ⟨cv, rfl, hcv, hcm, rfl⟩)⟩) (ea_cons (eg_call C_law_is_chain (hr.mono (by omega)) (ea_cons (ev_var 14 rfl) (ea_cons (ev_var 15 rfl) (ea_cons (ev_var 13 rfl) ea_nil))) ⟨x1, x2, _, rfl, h1, h2, .inr (.inl ⟨_, rfl, rfl⟩)⟩) ea_nil)) ⟨.bool false, rfl, rfl, Nat.zero_le _, rfl⟩))) (ew_nil ⟨_, _, rfl, ⟨q, rfl, hq⟩, rfl, rfl⟩))
    · obtain ⟨y, z, rfl, hq, hy, hz⟩ := hI
      exact ⟨_, y, z, rfl, hq, rfl, hy, hz⟩
  · obtain ⟨x, y, z, rfl, ⟨q, rfl, hq⟩, hx, hy, hz⟩ := hI
    exact ew_one (es_ret (eg_call C_law_exact (hr.mono (by omega)) (ea_cons (EG.ev (eg_call C_kinds_along (hr.mono (by omega)) (ea_cons (ev_var 2 rfl) ea_nil) ⟨c, rfl, hv, by omega, hne, hlk, by rw [hk]⟩)) (ea_cons (ev_var 3 rfl) ea_nil)) ⟨.list (embK (a :: ks)), rfl, xK, by rw [depthL]; omega, rfl⟩) ⟨⟨_, rfl, hB⟩, q, rfl, hq⟩)
end
end PU
namespace PU
open PySem PySem.Spec PyProof.Rows L2 StX MM
theorem br_powB {X : Cx} : BinR X .Pow (.int (10 ^ (60 : Int).toNat)) (.int 8) (.dat (.int ((10 ^ (60 : Int).toNat) ^ (8 : Int).toNat))) :=
  br_I (C := fun i j => i = 10 ^ (60 : Int).toNat ∧ j = 8) (g := fun i j => i ^ j.toNat) (opI fun i j t u s Q E hc q => by
    obtain ⟨rfl, rfl⟩ := hc
    exact pow_int (by decide) (by decide +kernel) q) ⟨rfl, rfl⟩
theorem cutV_ints (ns : List Int) (l h : Option Int) : cutV (ns.map V.int) l h = (cutD ns l h).map V.int := by
  unfold cutV cutD
  rw [List.length_map, List.map_take, List.map_drop]
/-- sum(script[i:j]) -/
theorem seed_of {X : Cx} {S : Addr → Prop} {σ : L2.St} {H : Hp} {δ : PEnv} {Q : VK} {p px p2 p3 pos : Pos} {x : Str} {lo hi : Expr} {i j : Int} {a : Addr} {ns : List Int} (ok : Ok X.K S H σ δ) (hσ : σ[0]? = some (some (.ref a))) (hS : SqL X.K H a (ns.map V.int)) (hlo : EV X lo δ (.int i)) (hhi : EV X hi δ (.int j))
    (q : ∀ (z : Int) H', Same H H' → Q (.int z) H') (hm : X.mg "sum" = none) (hN : X.N[0]? = some x) (hv : Vis X.env.scope x) (h1 : (x == ("__debug__" : Str)) = false) (h2 : (x == ("__classdict__" : Str)) = false) (hc : X.calm = true) (hg : Gl X "sum")
    (hs : starEach [.Subscript (.Name x px) (.Slice (some lo) (some hi) none p2) p3] X.env = (false, eval (.Subscript (.Name x px) (.Slice (some lo) (some hi) none p2) p3) X.env) :: starEach [] X.env) (hpl : (backTo pos (starEach [] X.env)).any (·.1) = false) :
    sE X (.Call (.Name "sum" p) [.Subscript (.Name x px) (.Slice (some lo) (some hi) none p2) p3] [] pos) σ H Q := by
  refine sE_of (pe_callB (cr_sum hc) hg hm (by decide +kernel) (pa_cons (pe_slice sl_list (pe_var hN hv h1 h2) po_s po_s) pa_nil hs) (by decide) (by decide) hs hpl) ?_
  refine ⟨_, hσ, ?_⟩
  refine eo_some hlo S σ H _ ok fun H1 s1 => ?_
  refine eo_some hhi S σ H1 _ (ok.m s1) fun H2 s2 => ?_
  refine ⟨_, _, rfl, (s1.trans s2).seq hS, fun p hp => ?_⟩
  refine ⟨p, cutD ns (some i) (some j), rfl, SqL.of (by rw [upd_same, cutV_ints]), q _ _ ((s1.trans s2).trans (same_new hp _))⟩
section
variable {P : Program} {w : World} {K : PySem.W.Frag} {mg : Str → Option Value} {base : Heap} {f : Addr} {fd : FuncData}
/-! ### _law_purse -/
abbrev st_law_purse : Stmt := top 59
theorem sc_law_purse : FnScope ["_law_script", "_law_at", "_law_seed"] ["_law_script", "_law_at"] (defScope st_law_purse) := ⟨rfl, rfl, rfl, by decide +kernel, rfl, by decide +kernel, by decide +kernel⟩
def sp_law_purse (K : PySem.W.Frag) : Sp := fun vs H Q _ => ∃ (a : Addr) (ns : List Int) (i : Int), vs = [.ref a, .int i] ∧ SqL K H a (ns.map V.int) ∧
  ∀ (p : Addr) (x y : Int) (H' : Hp), Same H H' → H p = none → H' p = some (.lst [.int x, .int y, .int 0, .int i]) → 0 ≤ x → 0 ≤ y → y < 2 ^ 32 → Q (.ref p) H'
theorem pow_pos8 : (0 : Int) < (10 ^ (60 : Int).toNat) ^ (8 : Int).toNat := by decide +kernel
theorem ok_law_purse (G : Mg K mg) (F : Fun K "_law_purse" "_law_purse" st_law_purse f fd) : FnOk P w K mg base CX0 1 f fd ["_law_script", "_law_at"] (sp_law_purse K) := by
  refine F.ok sc_law_purse (fun vs H Q E h => by obtain ⟨_, _, _, rfl, _⟩ := h; rfl) (fun cdv A outer s H vs Q E hr h => ?_)
  have nd := sc_law_purse.nd
  obtain ⟨a, ns, i, rfl, hS, q⟩ := h
  refine ⟨_, pss_cons (ps_set (i := 2) nd rfl (Or.inl rfl) pe_s) pss_s, ?_⟩
  have ok : Ok K (fun _ => False) H (start ["_law_script", "_law_at", "_law_seed"] [.ref a, .int i]) [none, some (.int i), none] :=
    { len := Nat.le_refl _, hid := fun a h => h.elim, dat := fun j d hj => by
        match j, hj with
        | 0, hj => cases hj
        | 1, hj => cases hj; exact ⟨_, rfl, .int i⟩
        | 2, hj => cases hj
        | j + 3, hj => cases hj }
  refine seed_of (i := i) (j := i + 1) ok rfl hS (ev_var 1 rfl) (eg_bin br_add (ev_var 1 rfl) ev_int) (fun z H1 s1 => ?_) G.sum rfl (by first | exact Or.inl rfl | exact Or.inr (Or.inl rfl) | exact Or.inr (Or.inr rfl)) (by decide) (by decide) rfl rfl rfl rfl
  have ew : EW (cxOf CX0 P w K mg base ["_law_script", "_law_at", "_law_seed"] "_law_purse" (defScope st_law_purse) f cdv A outer s H E).nox ((defBody st_law_purse).drop 1) [.unk, .dat (.int i), .dat (.int z)] .none (fun _ _ => False)
      (fun r _ => ∃ x y : Int, r = .fresh [.int x, .int y, .int 0, .int i] ∧ 0 ≤ x ∧ 0 ≤ y ∧ y < 2 ^ 32) := by
    refine ew_one (es_ret (el_lst (ea_cons (eg_bin (br_mod pow_pos8) (eg_callTy cr_intI (ea_cons (eg_callB cr_max2 (ea_cons (eg_bin br_sub (ev_var 2 rfl) (eg_bin (br_pow ⟨by decide, by decide, by decide⟩) ev_int ev_int)) (ea_cons ev_int ea_nil)) G.max rfl) ea_nil) G.int rfl) (eg_bin br_powB (eg_bin (br_pow ⟨by decide, by decide, by decide⟩) ev_int ev_int) ev_int)) (ea_cons (eg_bin (br_mod (by decide)) (eg_callTy cr_intI (ea_cons (ev_var 2 rfl) ea_nil) G.int rfl) ev_int) (ea_cons ev_int (ea_cons (ev_var 1 rfl) ea_nil)))) (small_len rfl)) ⟨_, _, rfl, Int.emod_nonneg _ (Int.ne_of_gt pow_pos8), Int.emod_nonneg _ (by decide), ?_⟩)
    have := Int.emod_lt_of_pos z (show (0 : Int) < 2147483629 by decide)
    omega
  refine ew 0 (fun _ => False) H { nx := fun _ H' => Q .non H', rt := Q } _ H1 (fun _ => 0) ?_ trivial (fun _ _ _ _ _ hN => hN.elim) (fun r _ v H' hR s2 _ g => ?_)
  · refine { len := Nat.le_refl _, base := s1, hid := fun a h => h.elim, dat := fun j d hj => ?_, own := fun j ds hj => ?_, inj := fun j k ds es hj => ?_, pur := fun j hj => ?_ }
    · match j, hj with
      | 0, hj => cases hj
      | 1, hj => cases hj; exact ⟨_, rfl, .int i⟩
      | 2, hj => cases hj; exact ⟨_, rfl, .int z⟩
      | j + 3, hj => cases hj
    · match j, hj with
      | 0, hj => cases hj
      | 1, hj => cases hj
      | 2, hj => cases hj
      | j + 3, hj => cases hj
    · match j, hj with
      | 0, hj => cases hj
      | 1, hj => cases hj
      | 2, hj => cases hj
      | j + 3, hj => cases hj
    · match j, hj with
      | 0, hj => cases hj
      | 1, hj => cases hj
      | 2, hj => cases hj
      | j + 3, hj => cases hj
  · obtain ⟨x, y, rfl, hx, hy, hy2⟩ := hR
    obtain ⟨p, us, rfl, hp, hp2, hr2⟩ := g
    refine q p x y H' s2 hp ?_ hx hy hy2
    cases hr2 with
    | cons a1 hr2 => cases hr2 with
      | cons a2 hr2 => cases hr2 with
        | cons a3 hr2 => cases hr2 with
          | cons a4 hr2 =>
            cases hr2; cases a1; cases a2; cases a3; cases a4
            exact hp2
end
end PU
namespace PU
open PySem PySem.Spec PyProof.Rows L2 StX MM
section
variable {P : Program} {w : World} {K : PySem.W.Frag} {mg : Str → Option Value} {base : Heap} {f : Addr} {fd : FuncData}
/-! ### _law_purses -/
abbrev st_law_purses : Stmt := top 62
theorem sc_law_purses : FnScope ["_law_script", "_law_few", "_law_at"] ["_law_script", "_law_few"] (defScope st_law_purses) := ⟨rfl, rfl, rfl, by decide +kernel, rfl, by decide +kernel, by decide +kernel⟩
def sp_law_purses (K : PySem.W.Frag) : Sp := fun vs H Q _ => ∃ (a : Addr) (ns : List Int), vs = [.ref a, .int 1] ∧ SqL K H a (ns.map V.int) ∧
  ∀ (l p : Addr) (x y : Int) (H' : Hp), Same H H' → H l = none → H p = none → p ≠ l → H' l = some (.lst [.ref p]) → H' p = some (.lst [.int x, .int y, .int 0, .int 0]) → 0 ≤ x → 0 ≤ y → y < 2 ^ 32 → Q (.ref l) H'
theorem ok_law_purses (G : Mg K mg) (C_law_purse : Cal P w K mg base 1 "_law_purse" ["_law_script", "_law_at"] (sp_law_purse K)) (F : Fun K "_law_purses" "_law_purses" st_law_purses f fd) : FnOk P w K mg base CX0 2 f fd ["_law_script", "_law_few"] (sp_law_purses K) := by
  refine F.ok sc_law_purses (fun vs H Q E h => by obtain ⟨_, _, rfl, _⟩ := h; rfl) (fun cdv A outer s H vs Q E hr h => ?_)
  have nd := sc_law_purses.nd
  obtain ⟨a, ns, rfl, hS, q⟩ := h
  obtain ⟨pa, pd, hpm, hpk, hpb, PF⟩ := C_law_purse.ex
  refine ⟨_, pss_one (ps_ret (pe_lc rfl nd (pi_range1 rfl G.range (pa_cons (pe_callB (call_max2 rfl) rfl G.max rfl (pa_cons pe_int (pa_cons (pe_callB (call_min2 rfl) rfl G.min rfl (pa_cons (pv 1) (pa_cons (pe_callB call_len rfl G.len boot_len (pa_cons (pv 0) pa_nil)) pa_nil))) pa_nil))) pa_nil)) (blkOk_by (own := [("_law_at", 2)]) (show blkC ["_law_script", "_law_few", "_law_at"] (defScope st_law_purses) _ _ = true by decide +kernel)) (fun _ _ _ _ _ => pg_name (i := 2) nd rfl (Or.inl rfl)) (fun _ _ _ _ _ => pts_nil) pe_sB (by intro _; rfl))), ?_⟩
  refine ⟨_, rfl, _, rfl, _, _, rfl, .inl ⟨_, hS, rfl⟩, _, _, rfl, _, _, rfl, ?_⟩
  have hj : (if (if (((ns.map V.int).length : Nat) : Int) < 1 then (((ns.map V.int).length : Nat) : Int) else 1) > 1 then (if (((ns.map V.int).length : Nat) : Int) < 1 then (((ns.map V.int).length : Nat) : Int) else 1) else (1 : Int)) = 1 := by
    by_cases c : (((ns.map V.int).length : Nat) : Int) < 1
    · rw [if_pos c, if_neg (by omega)]
    · rw [if_neg c, if_neg (by omega)]
  refine ⟨_, rfl, by rw [hj]; decide, by rw [hj]; decide, ?_⟩
  rw [hj]
  intro D hD
  have nD := same_new hD
  let Pv : Nat → Hp → Prop := fun i H2 => Same H H2 ∧ (i = 0 → H2 D = some (.lst [])) ∧ (i = 1 → ∃ (p : Addr) (x y : Int), H p = none ∧ p ≠ D ∧ H2 D = some (.lst [.ref p]) ∧ H2 p = some (.lst [.int x, .int y, .int 0, .int 0]) ∧ 0 ≤ x ∧ 0 ≤ y ∧ y < 2 ^ 32)
  refine ⟨fun i m H2 => m = 1 - i ∧ i ≤ 1 ∧ Pv i H2, ⟨1, rfl, Nat.zero_le _, nD _, fun _ => upd_same, fun e => by cases e⟩, ?_⟩
  rintro i m H2 ⟨rfl, hle, s2, hz, ho⟩
  by_cases hi : i = 0
  · subst hi
    refine .inr ⟨show 0 < 1 from Nat.zero_lt_one, Pv 1, fun H' p' => ⟨0, by omega, rfl, Nat.le_refl _, p'⟩, fun x H' hy => ?_⟩
    obtain ⟨rfl, rfl⟩ := hy
    refine ⟨rfl, iteT (B := Pv 1 H') ?_⟩
    intro sh Hh C cl fp
    refine sE_of (pe_call PF (hr.mono (by omega)) rfl hpm hpk hpb .nil pass0 (pa_cons (pe_var (i := 0) rfl (by first | exact Or.inl rfl | exact Or.inr (Or.inl rfl) | exact Or.inr (Or.inr rfl)) (by decide) (by decide)) (pa_cons (pe_var (i := 2) rfl (by first | exact Or.inl rfl | exact Or.inr (Or.inl rfl) | exact Or.inr (Or.inr rfl)) (by decide) (by decide)) pa_nil))) ?_
    refine ⟨_, rfl, _, rfl, a, ns, 0, rfl, s2.seq hS, fun p x y H' s3 hp hp2 hx hy hy2 => ?_⟩
    have hD2 := hz rfl
    have hpD : p ≠ D := fun e => by rw [e, hD2] at hp; cases hp
    refine ⟨[], s3 _ _ hD2, by show 0 < sizeLine; decide, fun b u hb => ?_, (fun e => by cases e), fun _ => ⟨p, x, y, s2.free hp, hpD, upd_same, ?_, hx, hy, hy2⟩⟩
    · rw [upd_ne (ne_of_none hb hD)]
      exact s3 _ _ (s2 _ _ hb)
    · rw [upd_ne hpD]
      exact hp2
  · have e : i = 1 := by omega
    subst e
    obtain ⟨p, x, y, h1, h2, h3, h4, h5, h6, h7⟩ := ho rfl
    exact .inl ⟨show 1 ≤ 1 from Nat.le_refl _, q D p x y H2 s2 hD h1 h2 h3 h4 h5 h6 h7⟩
end
end PU
namespace PU
open PySem PySem.Spec PyProof.Rows L2 StX MM

section
variable {X : Cx} {i : Nat} {δ : PEnv} {e a b c : Expr} {es : List Expr} {pos : Pos} {A : PyData → Prop} {k : Nat}
def datOf : Res → PyData
  | .dat d => d
  | .fresh ds => .list ds
/-- one of several answers, as a datum -/
theorem ec_ofN {P : Res → Prop} (h : EN X e δ P) : EC X i e δ 0 (fun z => ∃ r, P r ∧ z = datOf r) := fun p S σ H Q n ok hp pu hc q => h S σ H Q ok fun r v H' hP s g => by
  cases r with
  | dat d => exact q d v H' ⟨_, hP, rfl⟩ (sameC_of s) (pu.m s) g
  | fresh ds => exact q (.list ds) v H' ⟨_, hP, rfl⟩ (sameC_of s) (pu.m s) (g.weak ok.hid)
/-- a call without coins, of arguments that may have taken some -/
theorem ec_callR {n : Nat} {x : Str} {p : Pos} {ps : List Str} {f : List PyData → Res → Prop} {L : List PyData → Prop} (C : Cal X.prog X.w X.K X.mg X.base n x ps (spR X.K f)) (hr : Room n X.A) (ha : EAC X i (e :: es) δ k L) (hf : ∀ ds, L ds → ∃ d, f ds (.dat d) ∧ A d) (hg : Gl X x := by rfl)
    (hd : (x == ("__debug__" : Str)) = false := by decide)
    (he : starEach (e :: es) X.env = (false, eval e X.env) :: starEach es X.env := by rfl) (hpl : (backTo pos (starEach es X.env)).any (·.1) = false := by rfl) : EC X i (.Call (.Name x p) (e :: es) [] pos) δ k A := fun pp S σ H Q n ok hp pu hc q => by
  obtain ⟨a, fd, hm, hk, hb, F⟩ := C.ex
  refine sE_of (pe_call F hr hg hm hk hb .nil pass0 pa_s hd he hpl) ?_
  refine ha pp S σ H _ n ok hp pu hc fun ds vs H1 hL s1 pu1 g1 => ?_
  obtain ⟨d, h1, h2⟩ := hf ds hL
  refine ⟨S, ds, .dat d, (ok.mc pu.pS s1 pu1.no).hid, ?_, h1, fun v H' s2 g2 => q d v H' h2 (s1.trans (sameC_of s2)) (pu1.m s2) g2⟩
  rw [List.append_nil]
  exact g1
end
def isK2 (z : PyData) : Prop := ∃ k : Kd, z = emb k ∧ k.ok = true ∧ k.sg ≤ 2
def isW (z : PyData) : Prop := ∃ p : Str, z = .str p ∧ okw p = true

section
variable {P : Program} {w : World} {K : PySem.W.Frag} {mg : Str → Option Value} {base : Heap} {f : Addr} {fd : FuncData}

/-! ### law -/
abbrev st_law : Stmt := top 90
theorem sc_law : FnScope ["_law_script", "_law_purse_here", "_law_plains_here", "_law_spin", "_law_one", "_law_late", "_law_other", "_law_plain", "_law_told"] ["_law_script"] (defScope st_law) := ⟨rfl, rfl, rfl, by decide +kernel, rfl, by decide +kernel, by decide +kernel⟩
def forBody : Stmt → List Stmt
  | .For _ _ b _ _ => b
  | _ => []
abbrev law_in : List Stmt := forBody ((defBody st_law).headD (.Pass ⟨0, 0, 0, 0⟩))
theorem law_turn (G : Mg K mg) (C_law_draw : Cal P w K mg base 2 "_law_draw" ["_law_purse_here", "_law_many"] (spC K 1 r_law_draw)) (C_law_one_of : Cal P w K mg base 3 "_law_one_of" ["_law_purse_here", "_law_some"] (spC K 1 r_law_one_of)) (C_law_plains : Cal P w K mg base 5 "_law_plains" ["_law_purse_here", "_law_most"] (spC K 50 r_law_plains)) (C_law_kind : Cal P w K mg base 6 "_law_kind" ["_law_purse_here", "_law_plains_here", "_law_signs_here"] (spC K 13 (r_law_kind 2))) (C_law_alike_kind : Cal P w K mg base 42 "_law_alike_kind" ["_law_purse_here", "_law_plains_here", "_law_kind_here"] (spC K 60 r_law_alike_kind)) (C_law_signs : Cal P w K mg base 41 "_law_signs" ["_law_kind_here"] (spR K (r_law_signs 40))) (C_law_two_right : Cal P w K mg base 228 "_law_two_right" ["_law_one", "_law_other"] (spR K r_law_two_right)) (C_law_drawn_right : Cal P w K mg base 228 "_law_drawn_right" ["_law_purse_here", "_law_plains_here"] (spC K 140 r_law_drawn_right)) (C_law_letters : Cal P w K mg base 42 "_law_letters" ["_law_row"] (spR K r_law_letters)) (C_law_form : Cal P w K mg base 1 "_law_form" ["_law_letters_here", "_law_plain"] (spR K r_law_form)) (C_law_is_chain : Cal P w K mg base 227 "_law_is_chain" ["_law_one", "_law_other", "_law_value"] (spR K r_law_is_chain)) (C_is_chain : Cal P w K mg base 177 "is_chain" ["one", "other", "value"] (spR K r_is_chain)) (C_chain_of : Cal P w K mg base 179 "chain_of" ["one", "other"] (spN K r_chain_of)) (D_form_chain : CalK P w K mg base 178 "form_chain" ["kind", "plain"] (spR K r_form_chain)) (cdv : Value) (A : Around) (outer : List Env) (s0 : Shared) (H : Hp) (E : XK) (hr : Room 228 (A.deeper (envOfC "law" (defScope st_law) s0.heap.objs.size f cdv))) :
    EW (cxOf CX0 P w K mg base ["_law_script", "_law_purse_here", "_law_plains_here", "_law_spin", "_law_one", "_law_late", "_law_other", "_law_plain", "_law_told"] "law" (defScope st_law) f cdv A outer s0 H E).nox law_in [.unk, .purse, .unk, .unk, .unk, .unk, .unk, .unk, .unk] (.coin 0) (fun _ _ => True) (fun _ _ => False) := by
  have nd := sc_law.nd
  have hu := hr.units
  refine ew_cons (es_setC 1 2 (ec_call (A := isP) C_law_plains (hr.mono (by omega)) (eac_cons (ec_of ev_int) eac_nil) (fun ds h => ?_)) (fun d hd => ?_) (by decide) (nd := nd))
  · obtain ⟨z, t, rfl, rfl, rfl⟩ := h
    exact ⟨rfl, fun z hz => hz⟩
  have hpl := hd
  obtain ⟨ps, rfl, hps, hp0, hp3⟩ := hd
  refine ⟨.inl (nob rfl), EW.nrm [_, _, _, _, _, _, _, _, _] rfl ?_⟩
  refine ew_cons (es_for (ds := rngD 0 4) 3 (fun m δ' n' => ∃ (x3 x4 x5 x6 x7 x8 : Slot) (q : Nat), δ' = [.unk, .purse, .dat (.list (strsD ps)), x3, x4, x5, x6, x7, x8] ∧ n' = .coin q ∧ q ≤ 51 + 260 * m ∧ no1 x8 ∧ (m = 0 ∨ ∃ k : Kd, x4 = .dat (emb k) ∧ k.ok = true ∧ k.sg ≤ 2))
    (ei_range1 (j := 4) ev_int G.range (by decide) (by decide)) ⟨_, _, _, _, _, _, _, rfl, rfl, by decide, rfl, .inl rfl⟩ (fun m dd δ' n' hdm hI => ?_) (fun δ' n' hI => ?_) nd)
  · obtain ⟨x3, x4, x5, x6, x7, x8, q, rfl, rfl, hq, hx8, _⟩ := hI
    obtain ⟨i0, hi0, hi1, rfl⟩ := map_get hdm
    have hm4 : m < 4 := by have := (List.getElem?_eq_some_iff.mp hdm).1; rw [rngD_len] at this; exact this
    have hcap : q + 250 ≤ cap := by show q + 250 ≤ 1099511627776; omega
    refine ⟨.inr rfl, EW.nrm [_, _, _, _, _, _, _, _, _] rfl ?_⟩
    refine ew_cons (es_setC 1 4 (ec_call (A := isK2) C_law_kind (hr.mono (by omega)) (eac_cons (ec_of (ev_var 2 rfl)) (eac_cons (ec_draw C_law_draw (hr.mono (by omega)) ev_int (by decide) (by decide)) eac_nil)) fun ds h => by
      obtain ⟨z, t, rfl, rfl, z2, t2, rfl, ⟨i, rfl, i0, i1⟩, rfl⟩ := h
      obtain ⟨u, rfl⟩ : ∃ u : Nat, i = (u : Int) := ⟨i.toNat, by omega⟩
      exact ⟨_, u, rfl, hpl, by omega, fun z ⟨a, e, h1, h2⟩ => ⟨a, e, h1, by omega⟩⟩) (fun d hd => ?_) (by omega) (nd := nd))
    obtain ⟨k, rfl, hk, sk⟩ := hd
    have dk := dep_sg k
    refine ⟨.inr (nl_emb k), EW.nrm [_, _, _, _, _, _, _, _, _] rfl ?_⟩
    refine ew_cons (es_setC 1 5 (ec_call (A := isK5) C_law_alike_kind (hr.mono (by omega)) (eac_cons (ec_of (ev_var 2 rfl)) (eac_cons (ec_of (ev_var 4 rfl)) eac_nil)) (fun ds h => ?_)) (fun d hd => ?_) (by omega) (nd := nd))
    · obtain ⟨z, t, rfl, rfl, z2, t2, rfl, rfl, rfl⟩ := h
      exact ⟨_, k, rfl, hpl, hk, by omega, fun z hz => hz⟩
    obtain ⟨l, rfl, hl, sl⟩ := hd
    have dl := dep_sg l
    refine ⟨.inr (nl_emb l), EW.nrm [_, _, _, _, _, _, _, _, _] rfl ?_⟩
    refine ew_cons (es_setC 1 6 (ec_if (A := isK2) (tc_of (et_bw (eb_and (et_cmp cm_lt (ev_var 3 rfl) ev_int) (fun _ => eb_and1 (et_cmp cm_lt (eg_call C_law_signs (hr.mono (by omega)) (ea_cons (ev_var 5 rfl) ea_nil) ⟨l, rfl, by omega, rfl⟩) ev_int))))) (fun hT => ((ec_of (ev_var 5 rfl)).imp (fun z hz => ?_)).up (Nat.zero_le _)) (fun _ => (ec_call (A := isK2) C_law_kind (hr.mono (by omega)) (eac_cons (ec_of (ev_var 2 rfl)) (eac_cons (ec_draw C_law_draw (hr.mono (by omega)) ev_int (by decide) (by decide)) eac_nil)) fun ds h => by
      obtain ⟨z, t, rfl, rfl, z2, t2, rfl, ⟨i, rfl, i0, i1⟩, rfl⟩ := h
      obtain ⟨u, rfl⟩ : ∃ u : Nat, i = (u : Int) := ⟨i.toNat, by omega⟩
      exact ⟨_, u, rfl, hpl, by omega, fun z ⟨a, e, h1, h2⟩ => ⟨a, e, h1, by omega⟩⟩))) (fun d hd => ?_) (by omega) (nd := nd))
    · subst hz
      have hT := hT.symm
      rw [Bool.and_eq_true] at hT
      have := of_decide_eq_true hT.2
      exact ⟨l, rfl, hl, by omega⟩
    obtain ⟨o, rfl, ho, so⟩ := hd
    refine ⟨.inr (nl_emb o), EW.nrm [_, _, _, _, _, _, _, _, _] rfl ?_⟩
    refine ew_cons (es_ifC 1 (tc_bw (bc_or (tc_not (tc_of (et_val (eg_call C_law_two_right (hr.mono (by omega)) (ea_cons (ev_var 4 rfl) (ea_cons (ev_var 6 rfl) ea_nil)) ⟨k, o, rfl, ⟨hk, sk⟩, ⟨ho, so⟩, rfl⟩)))) (fun _ => bc_or1 (tc_not (tc_val (T := fun v => v = true) (ec_call C_law_drawn_right (hr.mono (by omega)) (eac_cons (ec_of (ev_var 2 rfl)) eac_nil) (fun ds h => ?_))))))) (fun hT => ?_) (fun hT => ew_nil ?_) (by omega))
    · obtain ⟨z, t, rfl, rfl, rfl⟩ := h
      exact ⟨_, rfl, hpl, true, rfl, rfl⟩
    · rcases hT with ⟨_, e⟩ | ⟨_, e⟩ <;> cases e
    refine ew_cons (es_setC 1 7 (ec_call (A := isW) C_law_one_of (hr.mono (by omega)) (eac_cons (ec_of (ev_var 2 rfl)) eac_nil) (fun ds h => ?_)) (fun d hd => ?_) (by omega) (nd := nd))
    · obtain ⟨z, t, rfl, rfl, rfl⟩ := h
      refine ⟨strsD ps, rfl, by rw [strsD_len]; exact hp0, by rw [strsD_len]; omega, fun d hd => ?_⟩
      obtain ⟨p, hp, rfl⟩ := List.mem_map.mp hd
      exact ⟨p, rfl, hps p hp⟩
    obtain ⟨p, rfl, hp⟩ := hd
    refine ⟨.inr rfl, EW.nrm [_, _, _, _, _, _, _, _, _] rfl ?_⟩
    obtain ⟨hpath, hlen⟩ := path_form hp hk sk
    have hv : Val (shortened (toForm p k)) := Path.val (by omega) (by omega) hpath
    refine ew_cons (es_set 8 (r := .fresh (embC (shortened (toForm p k)))) (eg_callR D_form_chain (hr.mono (by omega)) (ek_cons (ev_var 7 rfl) (ek_cons (ev_var 4 rfl) ek_nil)) ⟨k, p, rfl, hk, by omega, sk, hp, rfl⟩) (EW.nrm [_, _, _, _, _, _, _, _, _] rfl ?_) (safe := .inr (nl_embC _)) (nd := nd))
    generalize shortened (toForm p k) = c at hpath hlen hv
    refine ew_freeze 8 rfl (EW.nrm [_, _, _, _, _, _, _, _, _] rfl ?_)
    have hfo := form_ok hp (lets_ok hk)
    have hfd := form_dep (lets k) p
    have hll := lets_len k
    exact ew_one (es_ifF (et_not (et_val (eg_call C_law_is_chain (hr.mono (by omega)) (ea_cons (ev_var 4 rfl) (ea_cons (eg_call C_law_form (hr.mono (by omega)) (ea_cons (eg_call C_law_letters (hr.mono (by omega)) (ea_cons (EG.ev (el_lst (ea_cons (ev_var 4 rfl) ea_nil) (small_len rfl))) ea_nil) ⟨k, rfl, hk, by omega, by omega, rfl⟩) (ea_cons (ev_var 7 rfl) ea_nil)) ⟨lets k, p, rfl, lets_ok hk, hp, by omega, rfl⟩) (ea_cons (ev_var 8 rfl) ea_nil))) ⟨k, form (lets k) p, _, rfl, ⟨hk, by omega⟩, ⟨hfo, by omega⟩, .inl ⟨c, rfl, hv, by omega, by rw [isCh_path hpath]⟩⟩))) (ew_nil ⟨_, _, _, _, _, _, _, rfl, rfl, by omega, rfl, .inr ⟨k, rfl, hk, sk⟩⟩))
  · obtain ⟨x3, x4, x5, x6, x7, x8, q, rfl, rfl, hq, hx8, h4⟩ := hI
    rw [rngD_len] at hq h4
    obtain ⟨k, rfl, hk, sk⟩ := h4.resolve_left (by decide)
    have dk := dep_sg k
    have hcap : q + 250 ≤ cap := by show q + 250 ≤ 1099511627776; omega
    refine ew_one (es_ifC 1 (tc_bw (bc_or (tc_of (et_cmp (CmpR.to (k' := false) (cm_notB (s := true)) rfl) (eg_call C_is_chain (hr.mono (by omega)) (ea_cons (ev_var 4 rfl) (ea_cons (ev_var 4 rfl) (ea_cons (EG.ev (el_lst ea_nil (small_len rfl))) ea_nil))) ⟨k, k, _, rfl, ⟨hk, by omega⟩, ⟨hk, by omega⟩, .inl ⟨[], rfl, fun s h => (nomatch h), Nat.zero_le _, by rw [show isCh k k [] = true from decide_eq_true rfl]⟩⟩) ev_bl)) (fun _ => bc_or1 (tc_not (tc_val (T := fun v => v = true) (ec_callR C_law_is_chain (hr.mono (by omega)) (eac_cons (ec_of (ev_var 4 rfl)) (eac_cons (ec_of (ev_var 4 rfl)) (eac_cons (ec_ofN (en_call (P := fun r => ∃ p ∈ words k, r = .fresh (embC (chainIn k k p))) C_chain_of (hr.mono (by omega)) (ea_cons (ev_var 4 rfl) (ea_cons (ev_var 4 rfl) ea_nil)) ⟨k, k, rfl, ⟨hk, by omega, sk⟩, ⟨hk, by omega, sk⟩, fun _ p hp => ⟨p, hp, rfl⟩, fun h => absurd rfl h⟩)) eac_nil))) (fun ds h => ?_))))))) (fun hT => ?_) (fun hT => ew_nil trivial) (by omega))
    · obtain ⟨z, t, rfl, rfl, z2, t2, rfl, rfl, z3, t3, rfl, ⟨r, ⟨p, hp, rfl⟩, rfl⟩, rfl⟩ := h
      obtain ⟨hpath, hlen⟩ := path_chain (words_ok hk p hp) hk hk sk sk rfl
      exact ⟨.bool true, ⟨k, k, _, rfl, ⟨hk, by omega⟩, ⟨hk, by omega⟩, .inl ⟨_, rfl, Path.val (by omega) (by omega) hpath, by omega, by rw [isCh_path hpath]⟩⟩, true, rfl, rfl⟩
    · rcases hT with ⟨_, e⟩ | ⟨_, e⟩ <;> cases e
def sp_law (K : PySem.W.Frag) : Sp := fun vs H Q _ => ∃ (a : Addr) (ns : List Int), vs = [.ref a] ∧ SqL K H a (ns.map V.int) ∧ ns.length ≤ 63 ∧ ∀ H', Q (.bl true) H'
theorem ok_law (G : Mg K mg) (C_law_draw : Cal P w K mg base 2 "_law_draw" ["_law_purse_here", "_law_many"] (spC K 1 r_law_draw)) (C_law_one_of : Cal P w K mg base 3 "_law_one_of" ["_law_purse_here", "_law_some"] (spC K 1 r_law_one_of)) (C_law_plains : Cal P w K mg base 5 "_law_plains" ["_law_purse_here", "_law_most"] (spC K 50 r_law_plains)) (C_law_kind : Cal P w K mg base 6 "_law_kind" ["_law_purse_here", "_law_plains_here", "_law_signs_here"] (spC K 13 (r_law_kind 2))) (C_law_alike_kind : Cal P w K mg base 42 "_law_alike_kind" ["_law_purse_here", "_law_plains_here", "_law_kind_here"] (spC K 60 r_law_alike_kind)) (C_law_signs : Cal P w K mg base 41 "_law_signs" ["_law_kind_here"] (spR K (r_law_signs 40))) (C_law_two_right : Cal P w K mg base 228 "_law_two_right" ["_law_one", "_law_other"] (spR K r_law_two_right)) (C_law_drawn_right : Cal P w K mg base 228 "_law_drawn_right" ["_law_purse_here", "_law_plains_here"] (spC K 140 r_law_drawn_right)) (C_law_letters : Cal P w K mg base 42 "_law_letters" ["_law_row"] (spR K r_law_letters)) (C_law_form : Cal P w K mg base 1 "_law_form" ["_law_letters_here", "_law_plain"] (spR K r_law_form)) (C_law_is_chain : Cal P w K mg base 227 "_law_is_chain" ["_law_one", "_law_other", "_law_value"] (spR K r_law_is_chain)) (C_is_chain : Cal P w K mg base 177 "is_chain" ["one", "other", "value"] (spR K r_is_chain)) (C_chain_of : Cal P w K mg base 179 "chain_of" ["one", "other"] (spN K r_chain_of)) (D_form_chain : CalK P w K mg base 178 "form_chain" ["kind", "plain"] (spR K r_form_chain)) (C_law_purses : Cal P w K mg base 2 "_law_purses" ["_law_script", "_law_few"] (sp_law_purses K)) (F : Fun K "law" "law" st_law f fd) : FnOk P w K mg base CX0 229 f fd ["_law_script"] (sp_law K) := by
  refine F.ok sc_law (fun vs H Q E h => by obtain ⟨_, _, rfl, _⟩ := h; rfl) (fun cdv A outer s0 H vs Q E hr h => ?_)
  have nd := sc_law.nd
  obtain ⟨a, ns, rfl, hS, hlen, q⟩ := h
  obtain ⟨pa, pd, hpm, hpk, hpb, PF⟩ := C_law_purses.ex
  have turn := law_turn (f := f) G C_law_draw C_law_one_of C_law_plains C_law_kind C_law_alike_kind C_law_signs C_law_two_right C_law_drawn_right C_law_letters C_law_form C_law_is_chain C_is_chain C_chain_of D_form_chain cdv A outer s0 H E hr
  refine ⟨_, pss_cons (ps_for PassesOwn.never rfl (pi_list (pe_call PF (hr.mono (by omega)) rfl hpm hpk hpb .nil pass0 (pa_cons (pv 0) (pa_cons pe_int pa_nil)))) (pg_name (i := 1) nd rfl (Or.inl rfl) (.inl rfl)) pss_s (by intro _; rfl)) pss_s, ?_⟩
  refine ⟨_, rfl, a, ns, rfl, hS, fun l p x y H1 s1 hl hp hpl h1 h2 hx hy' hy2 => ?_⟩
  refine ⟨l, rfl, ⟨_, SqL.of h1⟩, ?_⟩
  have hlp : l ≠ p := fun e => hpl e.symm
  have hin : (hide (fun a => a = p) H1) l = some (.lst [.ref p]) := by rw [hide_get (S := fun a => a = p) hlp]; exact h1
  refine ⟨fun i m σ' H' => (i = 0 ∧ m = 1 ∧ σ' = start ["_law_script", "_law_purse_here", "_law_plains_here", "_law_spin", "_law_one", "_law_late", "_law_other", "_law_plain", "_law_told"] [.ref a] ∧ H' = H1) ∨ (i = 1 ∧ m = 0 ∧ H' l = some (.lst [.ref p])), ⟨1, .inl ⟨rfl, rfl, rfl, rfl⟩⟩, ?_⟩
  rintro i m σ' H' (⟨rfl, rfl, rfl, rfl⟩ | ⟨rfl, rfl, hl'⟩)
  · refine .inr ⟨⟨[.ref p], .ref p, SqL.of h1, rfl⟩, fun σ'' H'' => H'' l = some (.lst [.ref p]), fun σ'' H'' hN => ⟨0, Nat.zero_lt_one, .inr ⟨rfl, rfl, hN⟩⟩, fun v H2 hy => ?_⟩
    obtain ⟨rfl, hy⟩ := hy
    have hv := hy [.ref p] (SqL.of h1)
    cases hv
    refine turn p (fun a => a = p) (hide (fun a => a = p) H2) _ _ H2 (fun _ => 0) ?_ ⟨rfl, x, y, 0, 0, h2, hx, hy', hy2, Int.le_refl 0, Int.le_refl 0, Int.le_refl 0, by decide⟩ (fun δ' n' σ' H' A' _ ok' _ => ok'.base l _ hin) (fun r n' v H' hR => hR.elim)
    refine { len := Nat.le_refl _, base := hide_le, hid := fun a ha => ?_, dat := fun j d hj => ?_, own := fun j ds hj => ?_, inj := fun j k ds es hj => ?_, pur := fun j hj => ?_ }
    · subst ha; rw [h2]; exact fun z => nomatch z
    · match j, hj with
      | 0, hj | 1, hj | 2, hj | 3, hj | 4, hj | 5, hj | 6, hj | 7, hj | 8, hj | j + 9, hj => cases hj
    · match j, hj with
      | 0, hj | 1, hj | 2, hj | 3, hj | 4, hj | 5, hj | 6, hj | 7, hj | 8, hj | j + 9, hj => cases hj
    · match j, hj with
      | 0, hj | 1, hj | 2, hj | 3, hj | 4, hj | 5, hj | 6, hj | 7, hj | 8, hj | j + 9, hj => cases hj
    · match j, hj with
      | 1, hj => exact ⟨rfl, rfl, hide_no rfl⟩
      | 0, hj | 2, hj | 3, hj | 4, hj | 5, hj | 6, hj | 7, hj | 8, hj | j + 9, hj => cases hj
  · refine .inl ⟨⟨[.ref p], SqL.of hl', Nat.le_refl _⟩, ?_⟩
    exact sSs_of (pss_one (ps_ret pe_bl)) (q _)
end
end PU
namespace PU
open PySem PySem.Spec PyProof.Rows L2 StX MM

/-- a def of the text as it stands behind the top -/
structure DefAt (K : PySem.W.Frag) (x : Str) (i : Nat) : Prop where
  ex : ∃ (f : Addr) (oc : Value) (od an : Option Addr) (osl : Array (Option Value)) (kV doc pm cdv ct : Value), PySem.W.nsIn K mainGlobals x = some (some (.ref f)) ∧
    K.lookup f = some ⟨oc, od, .func (PySem.W.fnOf x x (defArgs (top i)) (defBody (top i)) (defScope (top i)) .none kV doc pm an cdv ct), osl⟩ ∧ PySem.W.codeIn K cdv x = true ∧ PySem.W.keepIn K (.ref f) = true
theorem defAt {K : PySem.W.Frag} {x : Str} {i : Nat} {f : Addr} {oc : Value} {od an : Option Addr} {osl : Array (Option Value)} {kV doc pm cdv ct : Value} (a : PySem.W.nsIn K mainGlobals x = some (some (.ref f)))
    (l : K.lookup f = some ⟨oc, od, .func (PySem.W.fnOf x x (defArgs (top i)) (defBody (top i)) (defScope (top i)) .none kV doc pm an cdv ct), osl⟩) (c : PySem.W.codeIn K cdv x = true) (k : PySem.W.keepIn K (.ref f) = true) : DefAt K x i :=
  ⟨f, oc, od, an, osl, kV, doc, pm, cdv, ct, a, l, c, k⟩
theorem DefAt.get {K : PySem.W.Frag} {x : Str} {i : Nat} {h : Heap} {mg : Str → Option Value} (D : DefAt K x i) (KX : K.In h) (G : h.Ns mainGlobals mg) : ∃ (f : Addr) (fd : FuncData), Fun K x x (top i) f fd ∧ mg x = some (.ref f) := by
  obtain ⟨f, oc, od, an, osl, kV, doc, pm, cdv, ct, a, l, c, k⟩ := D.ex
  exact ⟨f, _, fun_mk l c k, PySem.W.mg_of KX G a⟩
theorem fun_bindsK {K : PySem.W.Frag} {x qual : Str} {st : Stmt} {f : Addr} {fd : FuncData} {ps : List Str} (F : Fun K x qual st f fd)
    (h : ∀ (kV doc pm : Value) (an : Option Addr) (cdv ct : Value) (ws : List Value), ws.length = ps.length → bindArgs (PySem.W.fnOf x qual (defArgs st) (defBody st) (defScope st) .none kV doc pm an cdv ct) ⟨[], ps.reverse.zip ws⟩ = pure (ps.zip ws.reverse)) :
    ∀ (s : Shared) (ws : List Value), ws.length = ps.length → BindsTo s fd ⟨[], ps.reverse.zip ws⟩ (ps.zip ws.reverse) := by
  obtain ⟨oc, od, kV, doc, pm, an, cdv, ct, osl, rfl, lk, hcd⟩ := F.ex
  exact fun s ws hl => .of_eq (h kV doc pm an cdv ct ws hl)
theorem calK_of {P : Program} {w : World} {K : PySem.W.Frag} {mg : Str → Option Value} {base : Heap} {k : Nat} {x : Str} {ps : List Str} {sp : Sp} {f : Addr} {fd : FuncData} (hm : mg x = some (.ref f)) (kp : PySem.W.keepIn K (.ref f) = true)
    (b : ∀ (s : Shared) (ws : List Value), ws.length = ps.length → BindsTo s fd ⟨[], ps.reverse.zip ws⟩ (ps.zip ws.reverse)) (F : FnOk P w K mg base CX0 k f fd ps sp) : CalK P w K mg base k x ps sp := ⟨f, fd, hm, kp, b, F⟩
theorem tup_at {K : PySem.W.Frag} {h : Heap} {mg : Str → Option Value} {x : Str} {a : Addr} {od : Option Addr} {its : Array Value} {n : Nat} {sl : Array (Option Value)} {vs : List V} (KX : K.In h) (G : h.Ns mainGlobals mg) (e : PySem.W.nsIn K mainGlobals x = some (some (.ref a)))
    (l : K.lookup a = some ⟨.type "tuple", od, .seq its n, sl⟩) (hs : its.size ≤ sizeLine) (hv : Vals vs its.toList) : ∃ a, mg x = some (.ref a) ∧ ∀ H, SqT K H a vs :=
  ⟨a, PySem.W.mg_of KX G e, fun H => .inr ⟨_, its, n, l, rfl, rfl, hs, hv⟩⟩

theorem tupFact {K : PySem.W.Frag} {x : Str} {vs : List V} {a : Addr} {od : Option Addr} {its : Array Value} {n : Nat} {sl : Array (Option Value)} (e : PySem.W.nsIn K mainGlobals x = some (some (.ref a))) (l : K.lookup a = some ⟨.type "tuple", od, .seq its n, sl⟩) (z : its.size ≤ sizeLine) (v : Vals vs its.toList) :
    ∃ (a : Addr) (od : Option Addr) (its : Array Value) (n : Nat) (sl : Array (Option Value)), PySem.W.nsIn K mainGlobals x = some (some (.ref a)) ∧ K.lookup a = some ⟨.type "tuple", od, .seq its n, sl⟩ ∧ its.size ≤ sizeLine ∧ Vals vs its.toList := ⟨a, od, its, n, sl, e, l, z, v⟩
theorem txtFact {K : PySem.W.Frag} {x y z : Str} {t : Tok} (e : PySem.W.nsIn K mainGlobals x = some (some (.str y t))) (q : y = z) : ∃ (y : Str) (t : Tok), PySem.W.nsIn K mainGlobals x = some (some (.str y t)) ∧ y = z := ⟨y, t, e, q⟩

/-- what the top leaves -/
structure Facts (K : PySem.W.Frag) : Prop where
  d_is_count : DefAt K "is_count" 6
  d_is_word : DefAt K "is_word" 7
  d_is_kind_in : DefAt K "is_kind_in" 10
  d_check_kind : DefAt K "check_kind" 11
  d_check_word : DefAt K "check_word" 27
  d_words_in : DefAt K "words_in" 12
  d_plains_in : DefAt K "plains_in" 13
  d_made_of : DefAt K "made_of" 17
  d_used_of : DefAt K "used_of" 18
  d_told_in : DefAt K "told_in" 19
  d_add_letters : DefAt K "add_letters" 21
  d_letters_in : DefAt K "letters_in" 22
  d_put_behind : DefAt K "put_behind" 24
  d_letter_kind : DefAt K "letter_kind" 25
  d_form_in : DefAt K "form_in" 26
  d_ends_of : DefAt K "ends_of" 29
  d_along : DefAt K "along" 30
  d_check_chain : DefAt K "check_chain" 31
  d_kinds_along : DefAt K "kinds_along" 56
  d_turned_chain : DefAt K "turned_chain" 32
  d_itself : DefAt K "itself" 33
  d_behind_up : DefAt K "behind_up" 34
  d_ahead_up : DefAt K "ahead_up" 35
  d_gathered : DefAt K "gathered" 36
  d_led_first : DefAt K "led_first" 37
  d_led_second : DefAt K "led_second" 38
  d_led : DefAt K "led" 39
  d_cut_behind : DefAt K "cut_behind" 40
  d_cut_ahead : DefAt K "cut_ahead" 41
  d_unit_behind : DefAt K "unit_behind" 42
  d_unit_ahead : DefAt K "unit_ahead" 43
  d_pair_gone : DefAt K "pair_gone" 44
  d_one_more : DefAt K "one_more" 45
  d_two_forms : DefAt K "two_forms" 46
  d_to_form : DefAt K "to_form" 47
  d_without_rings : DefAt K "without_rings" 48
  d_joined_steps : DefAt K "joined_steps" 49
  d_shortened_in : DefAt K "shortened_in" 50
  d_are_alike_in : DefAt K "are_alike_in" 51
  d_chain_in : DefAt K "chain_in" 52
  d_is_chain : DefAt K "is_chain" 53
  d_are_alike : DefAt K "are_alike" 54
  d_chain_of : DefAt K "chain_of" 55
  d_form_chain : DefAt K "form_chain" 57
  d_law_mixed : DefAt K "_law_mixed" 60
  d_law_draw : DefAt K "_law_draw" 61
  d_law_one_of : DefAt K "_law_one_of" 63
  d_law_word : DefAt K "_law_word" 66
  d_law_words : DefAt K "_law_words" 67
  d_law_plains : DefAt K "_law_plains" 68
  d_law_kind : DefAt K "_law_kind" 69
  d_law_signs : DefAt K "_law_signs" 70
  d_law_uncancelled : DefAt K "_law_uncancelled" 71
  d_law_cancelled : DefAt K "_law_cancelled" 72
  d_law_letters : DefAt K "_law_letters" 73
  d_law_is_place : DefAt K "_law_is_place" 74
  d_law_is_kind : DefAt K "_law_is_kind" 75
  d_law_form : DefAt K "_law_form" 87
  d_law_told_made : DefAt K "_law_told_made" 77
  d_law_told_used : DefAt K "_law_told_used" 76
  d_law_tells : DefAt K "_law_tells" 78
  d_law_step_ends : DefAt K "_law_step_ends" 79
  d_law_along : DefAt K "_law_along" 80
  d_law_is_chain : DefAt K "_law_is_chain" 81
  d_law_loosened : DefAt K "_law_loosened" 83
  d_law_up_step : DefAt K "_law_up_step" 85
  d_law_back_chain : DefAt K "_law_back_chain" 84
  d_law_same : DefAt K "_law_same" 64
  d_law_chain : DefAt K "_law_chain" 86
  d_law_exact : DefAt K "_law_exact" 65
  d_law_alike_kind : DefAt K "_law_alike_kind" 82
  d_law_two_right : DefAt K "_law_two_right" 88
  d_law_drawn_right : DefAt K "_law_drawn_right" 89
  d_law_purse : DefAt K "_law_purse" 59
  d_law_purses : DefAt K "_law_purses" 62
  d_law : DefAt K "law" 90
  c_SIGNS : ∃ (a : Addr) (od : Option Addr) (its : Array Value) (n : Nat) (sl : Array (Option Value)), PySem.W.nsIn K mainGlobals "SIGNS" = some (some (.ref a)) ∧ K.lookup a = some ⟨.type "tuple", od, .seq its n, sl⟩ ∧ its.size ≤ sizeLine ∧ Vals [.str "over", .str "then", .str "under"] its.toList
  c_ONE : ∃ (a : Addr) (od : Option Addr) (its : Array Value) (n : Nat) (sl : Array (Option Value)), PySem.W.nsIn K mainGlobals "ONE" = some (some (.ref a)) ∧ K.lookup a = some ⟨.type "tuple", od, .seq its n, sl⟩ ∧ its.size ≤ sizeLine ∧ Vals [.str "over made", .str "under made"] its.toList
  c_USED : ∃ (a : Addr) (od : Option Addr) (its : Array Value) (n : Nat) (sl : Array (Option Value)), PySem.W.nsIn K mainGlobals "USED" = some (some (.ref a)) ∧ K.lookup a = some ⟨.type "tuple", od, .seq its n, sl⟩ ∧ its.size ≤ sizeLine ∧ Vals [.str "over used", .str "under used"] its.toList
  c_LETTERS : ∃ (x : Str) (t : Tok), PySem.W.nsIn K mainGlobals "LETTERS" = some (some (.str x t)) ∧ x = "abcdefghijklmnopqrstuvwxyz"
  b_isinstance : PySem.W.nsIn K mainGlobals "isinstance" = some none
  b_len : PySem.W.nsIn K mainGlobals "len" = some none
  b_all : PySem.W.nsIn K mainGlobals "all" = some none
  b_any : PySem.W.nsIn K mainGlobals "any" = some none
  b_list : PySem.W.nsIn K mainGlobals "list" = some none
  b_tuple : PySem.W.nsIn K mainGlobals "tuple" = some none
  b_str : PySem.W.nsIn K mainGlobals "str" = some none
  b_int : PySem.W.nsIn K mainGlobals "int" = some none
  b_bool : PySem.W.nsIn K mainGlobals "bool" = some none
  b_dict : PySem.W.nsIn K mainGlobals "dict" = some none
  b_sorted : PySem.W.nsIn K mainGlobals "sorted" = some none
  b_range : PySem.W.nsIn K mainGlobals "range" = some none
  b_zip : PySem.W.nsIn K mainGlobals "zip" = some none
  b_sum : PySem.W.nsIn K mainGlobals "sum" = some none
  b_max : PySem.W.nsIn K mainGlobals "max" = some none
  b_min : PySem.W.nsIn K mainGlobals "min" = some none
theorem Facts.mg {K : PySem.W.Frag} {h : Heap} {mg : Str → Option Value} (F : Facts K) (KX : K.In h) (G : h.Ns mainGlobals mg) : Mg K mg where
  signs := by
    obtain ⟨a, od, its, n, sl, e, l, z, v⟩ := F.c_SIGNS
    exact tup_at KX G e l z v
  one := by
    obtain ⟨a, od, its, n, sl, e, l, z, v⟩ := F.c_ONE
    exact tup_at KX G e l z v
  used := by
    obtain ⟨a, od, its, n, sl, e, l, z, v⟩ := F.c_USED
    exact tup_at KX G e l z v
  letters := by
    obtain ⟨x, t, e, rfl⟩ := F.c_LETTERS
    exact ⟨t, PySem.W.mg_of KX G e⟩
  isinstance := PySem.W.mg_none_of KX G F.b_isinstance
  len := PySem.W.mg_none_of KX G F.b_len
  all := PySem.W.mg_none_of KX G F.b_all
  any := PySem.W.mg_none_of KX G F.b_any
  list := PySem.W.mg_none_of KX G F.b_list
  tuple := PySem.W.mg_none_of KX G F.b_tuple
  «str» := PySem.W.mg_none_of KX G F.b_str
  int := PySem.W.mg_none_of KX G F.b_int
  bool := PySem.W.mg_none_of KX G F.b_bool
  dict := PySem.W.mg_none_of KX G F.b_dict
  sorted := PySem.W.mg_none_of KX G F.b_sorted
  range := PySem.W.mg_none_of KX G F.b_range
  zip := PySem.W.mg_none_of KX G F.b_zip
  sum := PySem.W.mg_none_of KX G F.b_sum
  max := PySem.W.mg_none_of KX G F.b_max
  min := PySem.W.mg_none_of KX G F.b_min
set_option maxHeartbeats 40000000
theorem law_all {l : PySem.W.OpenLaw} {w : World} {K : PySem.W.Frag} {h : Heap} {mg : Str → Option Value} {fa : Addr} (KX : K.In h) (N : h.Ns mainGlobals mg) (hfa : mg "law" = some (.ref fa)) (T : Facts K) :
    ∃ fd : FuncData, (∀ (s : Shared) (v : Value), BindsTo s fd ⟨[v], []⟩ [("_law_script", v)]) ∧ ∀ base : Heap, K.In base → base.Ns mainGlobals mg → FnOk l.prog w K mg base CX0 229 fa fd ["_law_script"] (sp_law K) := by
  have G : Mg K mg := T.mg KX N
  obtain ⟨f_is_count, fd_is_count, F_is_count, m_is_count⟩ := T.d_is_count.get KX N
  obtain ⟨f_is_word, fd_is_word, F_is_word, m_is_word⟩ := T.d_is_word.get KX N
  obtain ⟨f_is_kind_in, fd_is_kind_in, F_is_kind_in, m_is_kind_in⟩ := T.d_is_kind_in.get KX N
  obtain ⟨f_check_kind, fd_check_kind, F_check_kind, m_check_kind⟩ := T.d_check_kind.get KX N
  obtain ⟨f_check_word, fd_check_word, F_check_word, m_check_word⟩ := T.d_check_word.get KX N
  obtain ⟨f_words_in, fd_words_in, F_words_in, m_words_in⟩ := T.d_words_in.get KX N
  obtain ⟨f_plains_in, fd_plains_in, F_plains_in, m_plains_in⟩ := T.d_plains_in.get KX N
  obtain ⟨f_made_of, fd_made_of, F_made_of, m_made_of⟩ := T.d_made_of.get KX N
  obtain ⟨f_used_of, fd_used_of, F_used_of, m_used_of⟩ := T.d_used_of.get KX N
  obtain ⟨f_told_in, fd_told_in, F_told_in, m_told_in⟩ := T.d_told_in.get KX N
  obtain ⟨f_add_letters, fd_add_letters, F_add_letters, m_add_letters⟩ := T.d_add_letters.get KX N
  obtain ⟨f_letters_in, fd_letters_in, F_letters_in, m_letters_in⟩ := T.d_letters_in.get KX N
  obtain ⟨f_put_behind, fd_put_behind, F_put_behind, m_put_behind⟩ := T.d_put_behind.get KX N
  obtain ⟨f_letter_kind, fd_letter_kind, F_letter_kind, m_letter_kind⟩ := T.d_letter_kind.get KX N
  obtain ⟨f_form_in, fd_form_in, F_form_in, m_form_in⟩ := T.d_form_in.get KX N
  obtain ⟨f_ends_of, fd_ends_of, F_ends_of, m_ends_of⟩ := T.d_ends_of.get KX N
  obtain ⟨f_along, fd_along, F_along, m_along⟩ := T.d_along.get KX N
  obtain ⟨f_check_chain, fd_check_chain, F_check_chain, m_check_chain⟩ := T.d_check_chain.get KX N
  obtain ⟨f_kinds_along, fd_kinds_along, F_kinds_along, m_kinds_along⟩ := T.d_kinds_along.get KX N
  obtain ⟨f_turned_chain, fd_turned_chain, F_turned_chain, m_turned_chain⟩ := T.d_turned_chain.get KX N
  obtain ⟨f_itself, fd_itself, F_itself, m_itself⟩ := T.d_itself.get KX N
  obtain ⟨f_behind_up, fd_behind_up, F_behind_up, m_behind_up⟩ := T.d_behind_up.get KX N
  obtain ⟨f_ahead_up, fd_ahead_up, F_ahead_up, m_ahead_up⟩ := T.d_ahead_up.get KX N
  obtain ⟨f_gathered, fd_gathered, F_gathered, m_gathered⟩ := T.d_gathered.get KX N
  obtain ⟨f_led_first, fd_led_first, F_led_first, m_led_first⟩ := T.d_led_first.get KX N
  obtain ⟨f_led_second, fd_led_second, F_led_second, m_led_second⟩ := T.d_led_second.get KX N
  obtain ⟨f_led, fd_led, F_led, m_led⟩ := T.d_led.get KX N
  obtain ⟨f_cut_behind, fd_cut_behind, F_cut_behind, m_cut_behind⟩ := T.d_cut_behind.get KX N
  obtain ⟨f_cut_ahead, fd_cut_ahead, F_cut_ahead, m_cut_ahead⟩ := T.d_cut_ahead.get KX N
  obtain ⟨f_unit_behind, fd_unit_behind, F_unit_behind, m_unit_behind⟩ := T.d_unit_behind.get KX N
  obtain ⟨f_unit_ahead, fd_unit_ahead, F_unit_ahead, m_unit_ahead⟩ := T.d_unit_ahead.get KX N
  obtain ⟨f_pair_gone, fd_pair_gone, F_pair_gone, m_pair_gone⟩ := T.d_pair_gone.get KX N
  obtain ⟨f_one_more, fd_one_more, F_one_more, m_one_more⟩ := T.d_one_more.get KX N
  obtain ⟨f_two_forms, fd_two_forms, F_two_forms, m_two_forms⟩ := T.d_two_forms.get KX N
  obtain ⟨f_to_form, fd_to_form, F_to_form, m_to_form⟩ := T.d_to_form.get KX N
  obtain ⟨f_without_rings, fd_without_rings, F_without_rings, m_without_rings⟩ := T.d_without_rings.get KX N
  obtain ⟨f_joined_steps, fd_joined_steps, F_joined_steps, m_joined_steps⟩ := T.d_joined_steps.get KX N
  obtain ⟨f_shortened_in, fd_shortened_in, F_shortened_in, m_shortened_in⟩ := T.d_shortened_in.get KX N
  obtain ⟨f_are_alike_in, fd_are_alike_in, F_are_alike_in, m_are_alike_in⟩ := T.d_are_alike_in.get KX N
  obtain ⟨f_chain_in, fd_chain_in, F_chain_in, m_chain_in⟩ := T.d_chain_in.get KX N
  obtain ⟨f_is_chain, fd_is_chain, F_is_chain, m_is_chain⟩ := T.d_is_chain.get KX N
  obtain ⟨f_are_alike, fd_are_alike, F_are_alike, m_are_alike⟩ := T.d_are_alike.get KX N
  obtain ⟨f_chain_of, fd_chain_of, F_chain_of, m_chain_of⟩ := T.d_chain_of.get KX N
  obtain ⟨f_form_chain, fd_form_chain, F_form_chain, m_form_chain⟩ := T.d_form_chain.get KX N
  obtain ⟨f_law_mixed, fd_law_mixed, F_law_mixed, m_law_mixed⟩ := T.d_law_mixed.get KX N
  obtain ⟨f_law_draw, fd_law_draw, F_law_draw, m_law_draw⟩ := T.d_law_draw.get KX N
  obtain ⟨f_law_one_of, fd_law_one_of, F_law_one_of, m_law_one_of⟩ := T.d_law_one_of.get KX N
  obtain ⟨f_law_word, fd_law_word, F_law_word, m_law_word⟩ := T.d_law_word.get KX N
  obtain ⟨f_law_words, fd_law_words, F_law_words, m_law_words⟩ := T.d_law_words.get KX N
  obtain ⟨f_law_plains, fd_law_plains, F_law_plains, m_law_plains⟩ := T.d_law_plains.get KX N
  obtain ⟨f_law_kind, fd_law_kind, F_law_kind, m_law_kind⟩ := T.d_law_kind.get KX N
  obtain ⟨f_law_signs, fd_law_signs, F_law_signs, m_law_signs⟩ := T.d_law_signs.get KX N
  obtain ⟨f_law_uncancelled, fd_law_uncancelled, F_law_uncancelled, m_law_uncancelled⟩ := T.d_law_uncancelled.get KX N
  obtain ⟨f_law_cancelled, fd_law_cancelled, F_law_cancelled, m_law_cancelled⟩ := T.d_law_cancelled.get KX N
  obtain ⟨f_law_letters, fd_law_letters, F_law_letters, m_law_letters⟩ := T.d_law_letters.get KX N
  obtain ⟨f_law_is_place, fd_law_is_place, F_law_is_place, m_law_is_place⟩ := T.d_law_is_place.get KX N
  obtain ⟨f_law_is_kind, fd_law_is_kind, F_law_is_kind, m_law_is_kind⟩ := T.d_law_is_kind.get KX N
  obtain ⟨f_law_form, fd_law_form, F_law_form, m_law_form⟩ := T.d_law_form.get KX N
  obtain ⟨f_law_told_made, fd_law_told_made, F_law_told_made, m_law_told_made⟩ := T.d_law_told_made.get KX N
  obtain ⟨f_law_told_used, fd_law_told_used, F_law_told_used, m_law_told_used⟩ := T.d_law_told_used.get KX N
  obtain ⟨f_law_tells, fd_law_tells, F_law_tells, m_law_tells⟩ := T.d_law_tells.get KX N
  obtain ⟨f_law_step_ends, fd_law_step_ends, F_law_step_ends, m_law_step_ends⟩ := T.d_law_step_ends.get KX N
  obtain ⟨f_law_along, fd_law_along, F_law_along, m_law_along⟩ := T.d_law_along.get KX N
  obtain ⟨f_law_is_chain, fd_law_is_chain, F_law_is_chain, m_law_is_chain⟩ := T.d_law_is_chain.get KX N
  obtain ⟨f_law_loosened, fd_law_loosened, F_law_loosened, m_law_loosened⟩ := T.d_law_loosened.get KX N
  obtain ⟨f_law_up_step, fd_law_up_step, F_law_up_step, m_law_up_step⟩ := T.d_law_up_step.get KX N
  obtain ⟨f_law_back_chain, fd_law_back_chain, F_law_back_chain, m_law_back_chain⟩ := T.d_law_back_chain.get KX N
  obtain ⟨f_law_same, fd_law_same, F_law_same, m_law_same⟩ := T.d_law_same.get KX N
  obtain ⟨f_law_chain, fd_law_chain, F_law_chain, m_law_chain⟩ := T.d_law_chain.get KX N
  obtain ⟨f_law_exact, fd_law_exact, F_law_exact, m_law_exact⟩ := T.d_law_exact.get KX N
  obtain ⟨f_law_alike_kind, fd_law_alike_kind, F_law_alike_kind, m_law_alike_kind⟩ := T.d_law_alike_kind.get KX N
  obtain ⟨f_law_two_right, fd_law_two_right, F_law_two_right, m_law_two_right⟩ := T.d_law_two_right.get KX N
  obtain ⟨f_law_drawn_right, fd_law_drawn_right, F_law_drawn_right, m_law_drawn_right⟩ := T.d_law_drawn_right.get KX N
  obtain ⟨f_law_purse, fd_law_purse, F_law_purse, m_law_purse⟩ := T.d_law_purse.get KX N
  obtain ⟨f_law_purses, fd_law_purses, F_law_purses, m_law_purses⟩ := T.d_law_purses.get KX N
  obtain ⟨f_law, fd_law, F_law, m_law⟩ := T.d_law.get KX N
  have e := hfa.symm.trans m_law
  cases e
  refine ⟨fd_law, ?_, fun base _ _ => ?_⟩
  · obtain ⟨oc, od, kV, doc, pm, an, cdv, ct, osl, rfl, lk, hcd⟩ := F_law.ex
    exact fun s v => .of_eq rfl
  have b_is_count : L2.Binds K fd_is_count ["value"] [] := F_is_count.binds (ps := ["value"]) fun _ _ _ _ _ _ us hl => match us, hl with | [_], _ => rfl
  have C_is_count : Cal l.prog w K mg base 1 "is_count" ["value"] (spR K r_is_count) := cal_of m_is_count F_is_count.kp b_is_count (ok_is_count G F_is_count)
  have b_is_word : L2.Binds K fd_is_word ["value"] [] := F_is_word.binds (ps := ["value"]) fun _ _ _ _ _ _ us hl => match us, hl with | [_], _ => rfl
  have C_is_word : Cal l.prog w K mg base 1 "is_word" ["value"] (spR K r_is_word) := cal_of m_is_word F_is_word.kp b_is_word (ok_is_word G F_is_word)
  have b_is_kind_in : L2.Binds K fd_is_kind_in ["value"] [] := F_is_kind_in.binds (ps := ["value"]) fun _ _ _ _ _ _ us hl => match us, hl with | [_], _ => rfl
  have C_is_kind_in : Cal l.prog w K mg base 42 "is_kind_in" ["value"] (spR K (r_is_kind_in 40)) := cal_of m_is_kind_in F_is_kind_in.kp b_is_kind_in (ok_is_kind_in G C_is_word F_is_kind_in b_is_kind_in m_is_kind_in 40)
  have b_check_kind : L2.Binds K fd_check_kind ["value"] [] := F_check_kind.binds (ps := ["value"]) fun _ _ _ _ _ _ us hl => match us, hl with | [_], _ => rfl
  have C_check_kind : Cal l.prog w K mg base 43 "check_kind" ["value"] (spR K r_check_kind) := cal_of m_check_kind F_check_kind.kp b_check_kind (ok_check_kind G C_is_kind_in F_check_kind)
  have b_check_word : L2.Binds K fd_check_word ["value"] [] := F_check_word.binds (ps := ["value"]) fun _ _ _ _ _ _ us hl => match us, hl with | [_], _ => rfl
  have C_check_word : Cal l.prog w K mg base 2 "check_word" ["value"] (spR K r_check_word) := cal_of m_check_word F_check_word.kp b_check_word (ok_check_word G C_is_word F_check_word)
  have b_words_in : L2.Binds K fd_words_in ["kind"] [] := F_words_in.binds (ps := ["kind"]) fun _ _ _ _ _ _ us hl => match us, hl with | [_], _ => rfl
  have C_words_in : Cal l.prog w K mg base 3 "words_in" ["kind"] (spR K (r_words_in 2)) := cal_of m_words_in F_words_in.kp b_words_in (ok_words_in G F_words_in b_words_in m_words_in 2 (by decide))
  have b_plains_in : L2.Binds K fd_plains_in ["kind"] [] := F_plains_in.binds (ps := ["kind"]) fun _ _ _ _ _ _ us hl => match us, hl with | [_], _ => rfl
  have C_plains_in : Cal l.prog w K mg base 4 "plains_in" ["kind"] (spN K r_plains_in) := cal_of m_plains_in F_plains_in.kp b_plains_in (ok_plains_in G C_words_in F_plains_in)
  have b_made_of : L2.Binds K fd_made_of ["word", "told"] [] := F_made_of.binds (ps := ["word", "told"]) fun _ _ _ _ _ _ us hl => match us, hl with | [_, _], _ => rfl
  have C_made_of : Cal l.prog w K mg base 1 "made_of" ["word", "told"] (spR K r_made_of) := cal_of m_made_of F_made_of.kp b_made_of (ok_made_of G F_made_of)
  have b_used_of : L2.Binds K fd_used_of ["word", "place", "one", "other"] [] := F_used_of.binds (ps := ["word", "place", "one", "other"]) fun _ _ _ _ _ _ us hl => match us, hl with | [_, _, _, _], _ => rfl
  have C_used_of : Cal l.prog w K mg base 2 "used_of" ["word", "place", "one", "other"] (spR K r_used_of) := cal_of m_used_of F_used_of.kp b_used_of (ok_used_of G C_is_count F_used_of)
  have b_told_in : L2.Binds K fd_told_in ["value"] [] := F_told_in.binds (ps := ["value"]) fun _ _ _ _ _ _ us hl => match us, hl with | [_], _ => rfl
  have C_told_in : Cal l.prog w K mg base 174 "told_in" ["value"] (spR K (r_told_in 130)) := cal_of m_told_in F_told_in.kp b_told_in (ok_told_in G C_is_kind_in C_is_count C_made_of C_used_of F_told_in b_told_in m_told_in 130)
  have b_add_letters : L2.Binds K fd_add_letters ["kind", "sign", "found"] [] := F_add_letters.binds (ps := ["kind", "sign", "found"]) fun _ _ _ _ _ _ us hl => match us, hl with | [_, _, _], _ => rfl
  have C_add_letters : Cal l.prog w K mg base 41 "add_letters" ["kind", "sign", "found"] (spM K (r_add_letters 40)) := cal_of m_add_letters F_add_letters.kp b_add_letters (ok_add_letters G F_add_letters b_add_letters m_add_letters 40)
  have b_letters_in : L2.Binds K fd_letters_in ["kind"] [] := F_letters_in.binds (ps := ["kind"]) fun _ _ _ _ _ _ us hl => match us, hl with | [_], _ => rfl
  have C_letters_in : Cal l.prog w K mg base 42 "letters_in" ["kind"] (spR K r_letters_in) := cal_of m_letters_in F_letters_in.kp b_letters_in (ok_letters_in G C_add_letters F_letters_in)
  have b_put_behind : L2.Binds K fd_put_behind ["one", "other"] [] := F_put_behind.binds (ps := ["one", "other"]) fun _ _ _ _ _ _ us hl => match us, hl with | [_, _], _ => rfl
  have C_put_behind : Cal l.prog w K mg base 1 "put_behind" ["one", "other"] (spR K r_put_behind) := cal_of m_put_behind F_put_behind.kp b_put_behind (ok_put_behind G F_put_behind)
  have b_letter_kind : L2.Binds K fd_letter_kind ["letter", "plain"] [] := F_letter_kind.binds (ps := ["letter", "plain"]) fun _ _ _ _ _ _ us hl => match us, hl with | [_, _], _ => rfl
  have C_letter_kind : Cal l.prog w K mg base 1 "letter_kind" ["letter", "plain"] (spR K r_letter_kind) := cal_of m_letter_kind F_letter_kind.kp b_letter_kind (ok_letter_kind G F_letter_kind)
  have b_form_in : L2.Binds K fd_form_in ["letters", "plain"] [] := F_form_in.binds (ps := ["letters", "plain"]) fun _ _ _ _ _ _ us hl => match us, hl with | [_, _], _ => rfl
  have C_form_in : Cal l.prog w K mg base 2 "form_in" ["letters", "plain"] (spR K r_form_in) := cal_of m_form_in F_form_in.kp b_form_in (ok_form_in G C_letter_kind F_form_in)
  have b_ends_of : L2.Binds K fd_ends_of ["step"] [] := F_ends_of.binds (ps := ["step"]) fun _ _ _ _ _ _ us hl => match us, hl with | [_], _ => rfl
  have C_ends_of : Cal l.prog w K mg base 175 "ends_of" ["step"] (spR K r_ends_of) := cal_of m_ends_of F_ends_of.kp b_ends_of (ok_ends_of G C_told_in F_ends_of)
  have b_along : L2.Binds K fd_along ["value"] [] := F_along.binds (ps := ["value"]) fun _ _ _ _ _ _ us hl => match us, hl with | [_], _ => rfl
  have C_along : Cal l.prog w K mg base 176 "along" ["value"] (spR K r_along) := cal_of m_along F_along.kp b_along (ok_along G C_ends_of F_along)
  have b_check_chain : L2.Binds K fd_check_chain ["value"] [] := F_check_chain.binds (ps := ["value"]) fun _ _ _ _ _ _ us hl => match us, hl with | [_], _ => rfl
  have C_check_chain : Cal l.prog w K mg base 177 "check_chain" ["value"] (spR K r_check_chain) := cal_of m_check_chain F_check_chain.kp b_check_chain (ok_check_chain G C_along F_check_chain)
  have b_kinds_along : L2.Binds K fd_kinds_along ["chain"] [] := F_kinds_along.binds (ps := ["chain"]) fun _ _ _ _ _ _ us hl => match us, hl with | [_], _ => rfl
  have C_kinds_along : Cal l.prog w K mg base 178 "kinds_along" ["chain"] (spR K r_kinds_along) := cal_of m_kinds_along F_kinds_along.kp b_kinds_along (ok_kinds_along G C_along C_check_chain F_kinds_along)
  have bK_kinds_along := fun_bindsK F_kinds_along (ps := ["chain"]) fun _ _ _ _ _ _ ws hl => match ws, hl with | [_], _ => rfl
  have D_kinds_along := calK_of m_kinds_along F_kinds_along.kp bK_kinds_along (ok_kinds_along G C_along C_check_chain F_kinds_along)
  have b_turned_chain : L2.Binds K fd_turned_chain ["chain"] [] := F_turned_chain.binds (ps := ["chain"]) fun _ _ _ _ _ _ us hl => match us, hl with | [_], _ => rfl
  have C_turned_chain : Cal l.prog w K mg base 1 "turned_chain" ["chain"] (spR K r_turned_chain) := cal_of m_turned_chain F_turned_chain.kp b_turned_chain (ok_turned_chain G F_turned_chain)
  have b_itself : L2.Binds K fd_itself ["word"] [] := F_itself.binds (ps := ["word"]) fun _ _ _ _ _ _ us hl => match us, hl with | [_], _ => rfl
  have C_itself : Cal l.prog w K mg base 1 "itself" ["word"] (spR K r_itself) := cal_of m_itself F_itself.kp b_itself (ok_itself G F_itself)
  have b_behind_up : L2.Binds K fd_behind_up ["one", "other"] [] := F_behind_up.binds (ps := ["one", "other"]) fun _ _ _ _ _ _ us hl => match us, hl with | [_, _], _ => rfl
  have C_behind_up : Cal l.prog w K mg base 2 "behind_up" ["one", "other"] (spR K r_behind_up) := cal_of m_behind_up F_behind_up.kp b_behind_up (ok_behind_up G C_itself F_behind_up)
  have b_ahead_up : L2.Binds K fd_ahead_up ["one", "other"] [] := F_ahead_up.binds (ps := ["one", "other"]) fun _ _ _ _ _ _ us hl => match us, hl with | [_, _], _ => rfl
  have C_ahead_up : Cal l.prog w K mg base 2 "ahead_up" ["one", "other"] (spR K r_ahead_up) := cal_of m_ahead_up F_ahead_up.kp b_ahead_up (ok_ahead_up G C_itself F_ahead_up)
  have b_gathered : L2.Binds K fd_gathered ["one", "other", "third"] [] := F_gathered.binds (ps := ["one", "other", "third"]) fun _ _ _ _ _ _ us hl => match us, hl with | [_, _, _], _ => rfl
  have C_gathered : Cal l.prog w K mg base 2 "gathered" ["one", "other", "third"] (spR K r_gathered) := cal_of m_gathered F_gathered.kp b_gathered (ok_gathered G C_itself F_gathered)
  have b_led_first : L2.Binds K fd_led_first ["derivation", "word", "kind"] [] := F_led_first.binds (ps := ["derivation", "word", "kind"]) fun _ _ _ _ _ _ us hl => match us, hl with | [_, _, _], _ => rfl
  have C_led_first : Cal l.prog w K mg base 2 "led_first" ["derivation", "word", "kind"] (spR K r_led_first) := cal_of m_led_first F_led_first.kp b_led_first (ok_led_first G C_itself F_led_first)
  have b_led_second : L2.Binds K fd_led_second ["derivation", "word", "kind"] [] := F_led_second.binds (ps := ["derivation", "word", "kind"]) fun _ _ _ _ _ _ us hl => match us, hl with | [_, _, _], _ => rfl
  have C_led_second : Cal l.prog w K mg base 2 "led_second" ["derivation", "word", "kind"] (spR K r_led_second) := cal_of m_led_second F_led_second.kp b_led_second (ok_led_second G C_itself F_led_second)
  have b_led : L2.Binds K fd_led ["chain", "word", "kind", "side"] [] := F_led.binds (ps := ["chain", "word", "kind", "side"]) fun _ _ _ _ _ _ us hl => match us, hl with | [_, _, _, _], _ => rfl
  have C_led : Cal l.prog w K mg base 3 "led" ["chain", "word", "kind", "side"] (spR K r_led) := cal_of m_led F_led.kp b_led (ok_led G C_led_first C_led_second F_led)
  have b_cut_behind : L2.Binds K fd_cut_behind ["chain", "one", "other", "common"] [] := F_cut_behind.binds (ps := ["chain", "one", "other", "common"]) fun _ _ _ _ _ _ us hl => match us, hl with | [_, _, _, _], _ => rfl
  have C_cut_behind : Cal l.prog w K mg base 4 "cut_behind" ["chain", "one", "other", "common"] (spR K r_cut_behind) := cal_of m_cut_behind F_cut_behind.kp b_cut_behind (ok_cut_behind G C_behind_up C_led C_turned_chain F_cut_behind)
  have b_cut_ahead : L2.Binds K fd_cut_ahead ["chain", "one", "other", "common"] [] := F_cut_ahead.binds (ps := ["chain", "one", "other", "common"]) fun _ _ _ _ _ _ us hl => match us, hl with | [_, _, _, _], _ => rfl
  have C_cut_ahead : Cal l.prog w K mg base 4 "cut_ahead" ["chain", "one", "other", "common"] (spR K r_cut_ahead) := cal_of m_cut_ahead F_cut_ahead.kp b_cut_ahead (ok_cut_ahead G C_ahead_up C_led C_turned_chain F_cut_ahead)
  have b_unit_behind : L2.Binds K fd_unit_behind ["one", "other"] [] := F_unit_behind.binds (ps := ["one", "other"]) fun _ _ _ _ _ _ us hl => match us, hl with | [_, _], _ => rfl
  have C_unit_behind : Cal l.prog w K mg base 5 "unit_behind" ["one", "other"] (spR K r_unit_behind) := cal_of m_unit_behind F_unit_behind.kp b_unit_behind (ok_unit_behind G C_itself C_gathered C_cut_behind F_unit_behind)
  have b_unit_ahead : L2.Binds K fd_unit_ahead ["one", "other"] [] := F_unit_ahead.binds (ps := ["one", "other"]) fun _ _ _ _ _ _ us hl => match us, hl with | [_, _], _ => rfl
  have C_unit_ahead : Cal l.prog w K mg base 6 "unit_ahead" ["one", "other"] (spR K r_unit_ahead) := cal_of m_unit_ahead F_unit_ahead.kp b_unit_ahead (ok_unit_ahead G C_gathered C_turned_chain C_led C_unit_behind C_cut_ahead F_unit_ahead)
  have b_pair_gone : L2.Binds K fd_pair_gone ["letter", "plain"] [] := F_pair_gone.binds (ps := ["letter", "plain"]) fun _ _ _ _ _ _ us hl => match us, hl with | [_, _], _ => rfl
  have C_pair_gone : Cal l.prog w K mg base 7 "pair_gone" ["letter", "plain"] (spR K r_pair_gone) := cal_of m_pair_gone F_pair_gone.kp b_pair_gone (ok_pair_gone G C_letter_kind C_itself C_gathered C_unit_behind C_turned_chain C_unit_ahead C_cut_behind F_pair_gone)
  have b_one_more : L2.Binds K fd_one_more ["letters", "letter", "plain"] [] := F_one_more.binds (ps := ["letters", "letter", "plain"]) fun _ _ _ _ _ _ us hl => match us, hl with | [_, _, _], _ => rfl
  have C_one_more : Cal l.prog w K mg base 8 "one_more" ["letters", "letter", "plain"] (spR K r_one_more) := cal_of m_one_more F_one_more.kp b_one_more (ok_one_more G C_letter_kind C_unit_ahead C_pair_gone C_form_in C_gathered C_led C_unit_behind F_one_more)
  have b_two_forms : L2.Binds K fd_two_forms ["one", "other", "plain"] [] := F_two_forms.binds (ps := ["one", "other", "plain"]) fun _ _ _ _ _ _ us hl => match us, hl with | [_, _, _], _ => rfl
  have C_two_forms : Cal l.prog w K mg base 12 "two_forms" ["one", "other", "plain"] (spR K (r_two_forms 3)) := cal_of m_two_forms F_two_forms.kp b_two_forms (ok_two_forms G C_letter_kind C_form_in C_gathered C_led C_unit_behind C_turned_chain C_put_behind C_one_more F_two_forms b_two_forms m_two_forms 3 (by decide))
  have b_to_form : L2.Binds K fd_to_form ["kind", "plain"] [] := F_to_form.binds (ps := ["kind", "plain"]) fun _ _ _ _ _ _ us hl => match us, hl with | [_, _], _ => rfl
  have C_to_form : Cal l.prog w K mg base 45 "to_form" ["kind", "plain"] (spR K (r_to_form 2)) := cal_of m_to_form F_to_form.kp b_to_form (ok_to_form G C_letters_in C_led C_form_in C_two_forms C_itself C_turned_chain C_cut_behind C_cut_ahead F_to_form b_to_form m_to_form 2 (by decide))
  have b_without_rings : L2.Binds K fd_without_rings ["chain"] [] := F_without_rings.binds (ps := ["chain"]) fun _ _ _ _ _ _ us hl => match us, hl with | [_], _ => rfl
  have C_without_rings : Cal l.prog w K mg base 176 "without_rings" ["chain"] (spR K r_without_rings) := cal_of m_without_rings F_without_rings.kp b_without_rings (ok_without_rings G C_ends_of F_without_rings)
  have b_joined_steps : L2.Binds K fd_joined_steps ["chain"] [] := F_joined_steps.binds (ps := ["chain"]) fun _ _ _ _ _ _ us hl => match us, hl with | [_], _ => rfl
  have C_joined_steps : Cal l.prog w K mg base 1 "joined_steps" ["chain"] (spR K r_joined_steps) := cal_of m_joined_steps F_joined_steps.kp b_joined_steps (ok_joined_steps G F_joined_steps)
  have b_shortened_in : L2.Binds K fd_shortened_in ["chain"] [] := F_shortened_in.binds (ps := ["chain"]) fun _ _ _ _ _ _ us hl => match us, hl with | [_], _ => rfl
  have C_shortened_in : Cal l.prog w K mg base 177 "shortened_in" ["chain"] (spR K r_shortened_in) := cal_of m_shortened_in F_shortened_in.kp b_shortened_in (ok_shortened_in G C_without_rings C_joined_steps F_shortened_in)
  have b_are_alike_in : L2.Binds K fd_are_alike_in ["one", "other"] [] := F_are_alike_in.binds (ps := ["one", "other"]) fun _ _ _ _ _ _ us hl => match us, hl with | [_, _], _ => rfl
  have C_are_alike_in : Cal l.prog w K mg base 43 "are_alike_in" ["one", "other"] (spR K r_are_alike_in) := cal_of m_are_alike_in F_are_alike_in.kp b_are_alike_in (ok_are_alike_in G C_letters_in F_are_alike_in)
  have b_chain_in : L2.Binds K fd_chain_in ["one", "other"] [] := F_chain_in.binds (ps := ["one", "other"]) fun _ _ _ _ _ _ us hl => match us, hl with | [_, _], _ => rfl
  have C_chain_in : Cal l.prog w K mg base 178 "chain_in" ["one", "other"] (spN K r_chain_in) := cal_of m_chain_in F_chain_in.kp b_chain_in (ok_chain_in G C_plains_in C_shortened_in C_to_form C_turned_chain F_chain_in)
  have b_is_chain : L2.Binds K fd_is_chain ["one", "other", "value"] [] := F_is_chain.binds (ps := ["one", "other", "value"]) fun _ _ _ _ _ _ us hl => match us, hl with | [_, _, _], _ => rfl
  have C_is_chain : Cal l.prog w K mg base 177 "is_chain" ["one", "other", "value"] (spR K r_is_chain) := cal_of m_is_chain F_is_chain.kp b_is_chain (ok_is_chain G C_check_kind C_along F_is_chain)
  have bK_is_chain := fun_bindsK F_is_chain (ps := ["one", "other", "value"]) fun _ _ _ _ _ _ ws hl => match ws, hl with | [_, _, _], _ => rfl
  have D_is_chain := calK_of m_is_chain F_is_chain.kp bK_is_chain (ok_is_chain G C_check_kind C_along F_is_chain)
  have b_are_alike : L2.Binds K fd_are_alike ["one", "other"] [] := F_are_alike.binds (ps := ["one", "other"]) fun _ _ _ _ _ _ us hl => match us, hl with | [_, _], _ => rfl
  have C_are_alike : Cal l.prog w K mg base 44 "are_alike" ["one", "other"] (spR K r_are_alike) := cal_of m_are_alike F_are_alike.kp b_are_alike (ok_are_alike G C_check_kind C_are_alike_in F_are_alike)
  have bK_are_alike := fun_bindsK F_are_alike (ps := ["one", "other"]) fun _ _ _ _ _ _ ws hl => match ws, hl with | [_, _], _ => rfl
  have D_are_alike := calK_of m_are_alike F_are_alike.kp bK_are_alike (ok_are_alike G C_check_kind C_are_alike_in F_are_alike)
  have b_chain_of : L2.Binds K fd_chain_of ["one", "other"] [] := F_chain_of.binds (ps := ["one", "other"]) fun _ _ _ _ _ _ us hl => match us, hl with | [_, _], _ => rfl
  have C_chain_of : Cal l.prog w K mg base 179 "chain_of" ["one", "other"] (spN K r_chain_of) := cal_of m_chain_of F_chain_of.kp b_chain_of (ok_chain_of G C_check_kind C_are_alike_in C_chain_in F_chain_of)
  have bK_chain_of := fun_bindsK F_chain_of (ps := ["one", "other"]) fun _ _ _ _ _ _ ws hl => match ws, hl with | [_, _], _ => rfl
  have D_chain_of := calK_of m_chain_of F_chain_of.kp bK_chain_of (ok_chain_of G C_check_kind C_are_alike_in C_chain_in F_chain_of)
  have b_form_chain : L2.Binds K fd_form_chain ["kind", "plain"] [] := F_form_chain.binds (ps := ["kind", "plain"]) fun _ _ _ _ _ _ us hl => match us, hl with | [_, _], _ => rfl
  have C_form_chain := cal_of (P := l.prog) (w := w) (base := base) m_form_chain F_form_chain.kp b_form_chain (ok_form_chain G C_check_kind C_check_word C_shortened_in C_to_form F_form_chain)
  have bK_form_chain := fun_bindsK F_form_chain (ps := ["kind", "plain"]) fun _ _ _ _ _ _ ws hl => match ws, hl with | [_, _], _ => rfl
  have D_form_chain := calK_of m_form_chain F_form_chain.kp bK_form_chain (ok_form_chain G C_check_kind C_check_word C_shortened_in C_to_form F_form_chain)
  have b_law_mixed : L2.Binds K fd_law_mixed ["_law_seed", "_law_spin", "_law_at"] [] := F_law_mixed.binds (ps := ["_law_seed", "_law_spin", "_law_at"]) fun _ _ _ _ _ _ us hl => match us, hl with | [_, _, _], _ => rfl
  have C_law_mixed : Cal l.prog w K mg base 1 "_law_mixed" ["_law_seed", "_law_spin", "_law_at"] (spR K r_law_mixed) := cal_of m_law_mixed F_law_mixed.kp b_law_mixed (ok_law_mixed G F_law_mixed)
  have b_law_draw : L2.Binds K fd_law_draw ["_law_purse_here", "_law_many"] [] := F_law_draw.binds (ps := ["_law_purse_here", "_law_many"]) fun _ _ _ _ _ _ us hl => match us, hl with | [_, _], _ => rfl
  have C_law_draw : Cal l.prog w K mg base 2 "_law_draw" ["_law_purse_here", "_law_many"] (spC K 1 r_law_draw) := cal_of m_law_draw F_law_draw.kp b_law_draw (ok_law_draw G C_law_mixed F_law_draw)
  have b_law_one_of : L2.Binds K fd_law_one_of ["_law_purse_here", "_law_some"] [] := F_law_one_of.binds (ps := ["_law_purse_here", "_law_some"]) fun _ _ _ _ _ _ us hl => match us, hl with | [_, _], _ => rfl
  have C_law_one_of : Cal l.prog w K mg base 3 "_law_one_of" ["_law_purse_here", "_law_some"] (spC K 1 r_law_one_of) := cal_of m_law_one_of F_law_one_of.kp b_law_one_of (ok_law_one_of G C_law_draw F_law_one_of)
  have b_law_word : L2.Binds K fd_law_word ["_law_purse_here"] [] := F_law_word.binds (ps := ["_law_purse_here"]) fun _ _ _ _ _ _ us hl => match us, hl with | [_], _ => rfl
  have C_law_word : Cal l.prog w K mg base 3 "_law_word" ["_law_purse_here"] (spC K 10 r_law_word) := cal_of m_law_word F_law_word.kp b_law_word (ok_law_word G C_law_draw F_law_word)
  have b_law_words : L2.Binds K fd_law_words ["_law_purse_here", "_law_many"] [] := F_law_words.binds (ps := ["_law_purse_here", "_law_many"]) fun _ _ _ _ _ _ us hl => match us, hl with | [_, _], _ => rfl
  have C_law_words : Cal l.prog w K mg base 4 "_law_words" ["_law_purse_here", "_law_many"] (spC K 47 r_law_words) := cal_of m_law_words F_law_words.kp b_law_words (ok_law_words G C_law_draw C_law_word F_law_words)
  have b_law_plains : L2.Binds K fd_law_plains ["_law_purse_here", "_law_most"] [] := F_law_plains.binds (ps := ["_law_purse_here", "_law_most"]) fun _ _ _ _ _ _ us hl => match us, hl with | [_, _], _ => rfl
  have C_law_plains : Cal l.prog w K mg base 5 "_law_plains" ["_law_purse_here", "_law_most"] (spC K 50 r_law_plains) := cal_of m_law_plains F_law_plains.kp b_law_plains (ok_law_plains G C_law_draw C_law_one_of C_law_words F_law_plains)
  have b_law_kind : L2.Binds K fd_law_kind ["_law_purse_here", "_law_plains_here", "_law_signs_here"] [] := F_law_kind.binds (ps := ["_law_purse_here", "_law_plains_here", "_law_signs_here"]) fun _ _ _ _ _ _ us hl => match us, hl with | [_, _, _], _ => rfl
  have C_law_kind : Cal l.prog w K mg base 6 "_law_kind" ["_law_purse_here", "_law_plains_here", "_law_signs_here"] (spC K 13 (r_law_kind 2)) := cal_of m_law_kind F_law_kind.kp b_law_kind (ok_law_kind G C_law_draw C_law_one_of F_law_kind b_law_kind m_law_kind 2 (by decide))
  have b_law_signs : L2.Binds K fd_law_signs ["_law_kind_here"] [] := F_law_signs.binds (ps := ["_law_kind_here"]) fun _ _ _ _ _ _ us hl => match us, hl with | [_], _ => rfl
  have C_law_signs : Cal l.prog w K mg base 41 "_law_signs" ["_law_kind_here"] (spR K (r_law_signs 40)) := cal_of m_law_signs F_law_signs.kp b_law_signs (ok_law_signs G F_law_signs b_law_signs m_law_signs 40 (by decide))
  have b_law_uncancelled : L2.Binds K fd_law_uncancelled ["_law_kind_here"] [] := F_law_uncancelled.binds (ps := ["_law_kind_here"]) fun _ _ _ _ _ _ us hl => match us, hl with | [_], _ => rfl
  have C_law_uncancelled : Cal l.prog w K mg base 41 "_law_uncancelled" ["_law_kind_here"] (spR K (r_law_uncancelled 40)) := cal_of m_law_uncancelled F_law_uncancelled.kp b_law_uncancelled (ok_law_uncancelled G F_law_uncancelled b_law_uncancelled m_law_uncancelled 40 (by decide))
  have b_law_cancelled : L2.Binds K fd_law_cancelled ["_law_letters_here"] [] := F_law_cancelled.binds (ps := ["_law_letters_here"]) fun _ _ _ _ _ _ us hl => match us, hl with | [_], _ => rfl
  have C_law_cancelled : Cal l.prog w K mg base 1 "_law_cancelled" ["_law_letters_here"] (spR K r_law_cancelled) := cal_of m_law_cancelled F_law_cancelled.kp b_law_cancelled (ok_law_cancelled G F_law_cancelled)
  have b_law_letters : L2.Binds K fd_law_letters ["_law_row"] [] := F_law_letters.binds (ps := ["_law_row"]) fun _ _ _ _ _ _ us hl => match us, hl with | [_], _ => rfl
  have C_law_letters : Cal l.prog w K mg base 42 "_law_letters" ["_law_row"] (spR K r_law_letters) := cal_of m_law_letters F_law_letters.kp b_law_letters (ok_law_letters G C_law_uncancelled C_law_cancelled F_law_letters)
  have b_law_is_place : L2.Binds K fd_law_is_place ["_law_value", "_law_many"] [] := F_law_is_place.binds (ps := ["_law_value", "_law_many"]) fun _ _ _ _ _ _ us hl => match us, hl with | [_, _], _ => rfl
  have C_law_is_place : Cal l.prog w K mg base 1 "_law_is_place" ["_law_value", "_law_many"] (spR K r_law_is_place) := cal_of m_law_is_place F_law_is_place.kp b_law_is_place (ok_law_is_place G F_law_is_place)
  have b_law_is_kind : L2.Binds K fd_law_is_kind ["_law_value"] [] := F_law_is_kind.binds (ps := ["_law_value"]) fun _ _ _ _ _ _ us hl => match us, hl with | [_], _ => rfl
  have C_law_is_kind : Cal l.prog w K mg base 41 "_law_is_kind" ["_law_value"] (spR K (r_law_is_kind 40)) := cal_of m_law_is_kind F_law_is_kind.kp b_law_is_kind (ok_law_is_kind G F_law_is_kind b_law_is_kind m_law_is_kind 40 (by decide))
  have b_law_form : L2.Binds K fd_law_form ["_law_letters_here", "_law_plain"] [] := F_law_form.binds (ps := ["_law_letters_here", "_law_plain"]) fun _ _ _ _ _ _ us hl => match us, hl with | [_, _], _ => rfl
  have C_law_form : Cal l.prog w K mg base 1 "_law_form" ["_law_letters_here", "_law_plain"] (spR K r_law_form) := cal_of m_law_form F_law_form.kp b_law_form (ok_law_form G F_law_form)
  have b_law_told_made : L2.Binds K fd_law_told_made ["_law_value"] [] := F_law_told_made.binds (ps := ["_law_value"]) fun _ _ _ _ _ _ us hl => match us, hl with | [_], _ => rfl
  have b_law_told_used : L2.Binds K fd_law_told_used ["_law_value"] [] := F_law_told_used.binds (ps := ["_law_value"]) fun _ _ _ _ _ _ us hl => match us, hl with | [_], _ => rfl
  have b_law_tells : L2.Binds K fd_law_tells ["_law_value"] [] := F_law_tells.binds (ps := ["_law_value"]) fun _ _ _ _ _ _ us hl => match us, hl with | [_], _ => rfl
  have C_law_tells : Cal l.prog w K mg base 224 "_law_tells" ["_law_value"] (spR K (r_law_tells 130)) := cal_of m_law_tells F_law_tells.kp b_law_tells ((ok_law_tells G C_law_is_kind C_law_is_place F_law_told_made b_law_told_made m_law_told_made F_law_told_used b_law_told_used m_law_told_used F_law_tells b_law_tells m_law_tells 130).ok (by decide) (by decide))
  have b_law_step_ends : L2.Binds K fd_law_step_ends ["_law_step"] [] := F_law_step_ends.binds (ps := ["_law_step"]) fun _ _ _ _ _ _ us hl => match us, hl with | [_], _ => rfl
  have C_law_step_ends : Cal l.prog w K mg base 225 "_law_step_ends" ["_law_step"] (spR K r_law_step_ends) := cal_of m_law_step_ends F_law_step_ends.kp b_law_step_ends (ok_law_step_ends G C_law_tells F_law_step_ends)
  have b_law_along : L2.Binds K fd_law_along ["_law_value"] [] := F_law_along.binds (ps := ["_law_value"]) fun _ _ _ _ _ _ us hl => match us, hl with | [_], _ => rfl
  have C_law_along : Cal l.prog w K mg base 226 "_law_along" ["_law_value"] (spR K r_law_along) := cal_of m_law_along F_law_along.kp b_law_along (ok_law_along G C_law_step_ends F_law_along)
  have b_law_is_chain : L2.Binds K fd_law_is_chain ["_law_one", "_law_other", "_law_value"] [] := F_law_is_chain.binds (ps := ["_law_one", "_law_other", "_law_value"]) fun _ _ _ _ _ _ us hl => match us, hl with | [_, _, _], _ => rfl
  have C_law_is_chain : Cal l.prog w K mg base 227 "_law_is_chain" ["_law_one", "_law_other", "_law_value"] (spR K r_law_is_chain) := cal_of m_law_is_chain F_law_is_chain.kp b_law_is_chain (ok_law_is_chain G C_law_along F_law_is_chain)
  have b_law_loosened : L2.Binds K fd_law_loosened ["_law_kind_here"] [] := F_law_loosened.binds (ps := ["_law_kind_here"]) fun _ _ _ _ _ _ us hl => match us, hl with | [_], _ => rfl
  have C_law_loosened : Cal l.prog w K mg base 1 "_law_loosened" ["_law_kind_here"] (spR K r_law_loosened) := cal_of m_law_loosened F_law_loosened.kp b_law_loosened (ok_law_loosened G F_law_loosened)
  have b_law_up_step : L2.Binds K fd_law_up_step ["_law_purse_here", "_law_plains_here", "_law_kind_here"] [] := F_law_up_step.binds (ps := ["_law_purse_here", "_law_plains_here", "_law_kind_here"]) fun _ _ _ _ _ _ us hl => match us, hl with | [_, _, _], _ => rfl
  have C_law_up_step : Cal l.prog w K mg base 7 "_law_up_step" ["_law_purse_here", "_law_plains_here", "_law_kind_here"] (spC K 15 r_law_up_step) := cal_of m_law_up_step F_law_up_step.kp b_law_up_step (ok_law_up_step G C_law_draw C_law_kind F_law_up_step)
  have b_law_back_chain : L2.Binds K fd_law_back_chain ["_law_chain_here"] [] := F_law_back_chain.binds (ps := ["_law_chain_here"]) fun _ _ _ _ _ _ us hl => match us, hl with | [_], _ => rfl
  have C_law_back_chain : Cal l.prog w K mg base 1 "_law_back_chain" ["_law_chain_here"] (spR K r_law_back_chain) := cal_of m_law_back_chain F_law_back_chain.kp b_law_back_chain (ok_law_back_chain G F_law_back_chain)
  have b_law_same : L2.Binds K fd_law_same ["_law_thing"] [] := F_law_same.binds (ps := ["_law_thing"]) fun _ _ _ _ _ _ us hl => match us, hl with | [_], _ => rfl
  have C_law_same : Cal l.prog w K mg base 61 "_law_same" ["_law_thing"] (spR K (r_law_same 60)) := cal_of m_law_same F_law_same.kp b_law_same (ok_law_same G F_law_same b_law_same m_law_same 60)
  have b_law_chain : L2.Binds K fd_law_chain ["_law_purse_here", "_law_plains_here", "_law_many"] [] := F_law_chain.binds (ps := ["_law_purse_here", "_law_plains_here", "_law_many"]) fun _ _ _ _ _ _ us hl => match us, hl with | [_, _, _], _ => rfl
  have C_law_chain : Cal l.prog w K mg base 227 "_law_chain" ["_law_purse_here", "_law_plains_here", "_law_many"] (spC K 120 r_law_chain) := cal_of m_law_chain F_law_chain.kp b_law_chain (ok_law_chain G C_law_draw C_law_kind C_law_up_step C_law_step_ends C_law_signs C_law_back_chain C_law_along F_law_chain)
  have b_law_exact : L2.Binds K fd_law_exact ["_law_mine", "_law_theirs"] [] := F_law_exact.binds (ps := ["_law_mine", "_law_theirs"]) fun _ _ _ _ _ _ us hl => match us, hl with | [_, _], _ => rfl
  have C_law_exact : Cal l.prog w K mg base 61 "_law_exact" ["_law_mine", "_law_theirs"] (spR K (r_law_exact 60)) := cal_of m_law_exact F_law_exact.kp b_law_exact (ok_law_exact G F_law_exact b_law_exact m_law_exact 60)
  have b_law_alike_kind : L2.Binds K fd_law_alike_kind ["_law_purse_here", "_law_plains_here", "_law_kind_here"] [] := F_law_alike_kind.binds (ps := ["_law_purse_here", "_law_plains_here", "_law_kind_here"]) fun _ _ _ _ _ _ us hl => match us, hl with | [_, _, _], _ => rfl
  have C_law_alike_kind : Cal l.prog w K mg base 42 "_law_alike_kind" ["_law_purse_here", "_law_plains_here", "_law_kind_here"] (spC K 60 r_law_alike_kind) := cal_of m_law_alike_kind F_law_alike_kind.kp b_law_alike_kind (ok_law_alike_kind G C_law_draw C_law_kind C_law_loosened C_law_signs F_law_alike_kind)
  have b_law_two_right : L2.Binds K fd_law_two_right ["_law_one", "_law_other"] [] := F_law_two_right.binds (ps := ["_law_one", "_law_other"]) fun _ _ _ _ _ _ us hl => match us, hl with | [_, _], _ => rfl
  have C_law_two_right : Cal l.prog w K mg base 228 "_law_two_right" ["_law_one", "_law_other"] (spR K r_law_two_right) := cal_of m_law_two_right F_law_two_right.kp b_law_two_right (ok_law_two_right G C_law_letters C_law_exact C_law_is_chain C_law_back_chain C_is_chain C_are_alike C_chain_of D_is_chain D_are_alike D_chain_of F_law_two_right)
  have b_law_drawn_right : L2.Binds K fd_law_drawn_right ["_law_purse_here", "_law_plains_here"] [] := F_law_drawn_right.binds (ps := ["_law_purse_here", "_law_plains_here"]) fun _ _ _ _ _ _ us hl => match us, hl with | [_, _], _ => rfl
  have C_law_drawn_right : Cal l.prog w K mg base 228 "_law_drawn_right" ["_law_purse_here", "_law_plains_here"] (spC K 140 r_law_drawn_right) := cal_of m_law_drawn_right F_law_drawn_right.kp b_law_drawn_right (ok_law_drawn_right G C_law_draw C_law_chain C_law_along C_law_same C_law_exact C_law_up_step C_law_is_chain C_law_back_chain C_is_chain C_are_alike C_kinds_along D_kinds_along F_law_drawn_right)
  have b_law_purse : L2.Binds K fd_law_purse ["_law_script", "_law_at"] [] := F_law_purse.binds (ps := ["_law_script", "_law_at"]) fun _ _ _ _ _ _ us hl => match us, hl with | [_, _], _ => rfl
  have C_law_purse : Cal l.prog w K mg base 1 "_law_purse" ["_law_script", "_law_at"] (sp_law_purse K) := cal_of m_law_purse F_law_purse.kp b_law_purse (ok_law_purse G F_law_purse)
  have b_law_purses : L2.Binds K fd_law_purses ["_law_script", "_law_few"] [] := F_law_purses.binds (ps := ["_law_script", "_law_few"]) fun _ _ _ _ _ _ us hl => match us, hl with | [_, _], _ => rfl
  have C_law_purses : Cal l.prog w K mg base 2 "_law_purses" ["_law_script", "_law_few"] (sp_law_purses K) := cal_of m_law_purses F_law_purses.kp b_law_purses (ok_law_purses G C_law_purse F_law_purses)
  exact ok_law G C_law_draw C_law_one_of C_law_plains C_law_kind C_law_alike_kind C_law_signs C_law_two_right C_law_drawn_right C_law_letters C_law_form C_law_is_chain C_is_chain C_chain_of D_form_chain C_law_purses F_law
end PU
set_option maxHeartbeats 4000000
namespace PU
open PySem PySem.Spec PyProof.Rows L2 StX MM
theorem walk {l : PySem.W.OpenLaw} {q : Program} {loose : List Str} {XP : (Str → Option Value) → Heap → Prop} {YP : World → Heap → Prop} {d : DefRec} {K : Params → PySem.W.Frag} (hn : l.most = some 63) (hdf : d.params.defaults = [])
    (hY : ∀ (w : World) (h : Heap), YP w h → (K w.params).In h)
    (F : ∀ (w : World) (mg : Str → Option Value) (fa : Addr) (h : Heap), (K w.params).In h → h.Ns mainGlobals mg → mg d.name = some (.ref fa) →
      ∃ fd : FuncData, (∀ (s : Shared) (u : Value), BindsTo s fd ⟨[u], []⟩ [("_law_script", u)]) ∧ ∀ base : Heap, (K w.params).In base → base.Ns mainGlobals mg → FnOk l.prog w (K w.params) mg base CX0 229 fa fd ["_law_script"] (sp_law (K w.params))) :
    PySem.W.WalkO q loose XP YP l.row.toRowW d [] (fun f vs => PySem.call f vs) :=
  L2.walk_of (n := 63) (k := 229) (x := "_law_script") (CX := fun _ => CX0) (sp := fun w => sp_law (K w.params)) hn (by decide) hdf ⟨rfl, by decide, by decide⟩ hY F (fun _ _ a ns hl _ hS => ⟨a, ns, rfl, hS, hl, fun _ => rfl⟩) fun _ _ _ _ _ z => z
end PU
open PySem PySem.W PyProof.Rows
set_option maxRecDepth 100000 in
set_option maxHeartbeats 0 in
theorem PySem.Challenge.cw_phrasejoins_k21_whole_chains_and_alike_t_holds : PySem.Challenge.rw_phrasejoins_k21_whole_chains_and_alike_t.Holds := by
  w_on; o_law; k_head; (case hw => w_witness2)
  k_fill
  refine PU.walk (l := PySem.Challenge.rw_phrasejoins_k21_whole_chains_and_alike_t) rfl rfl (fun w h Y => PySem.W.kIn_of Y) ?F
  case F =>
    intro w mg fa h KX G hmg
    refine PU.law_all KX G hmg ?T
    case T =>
      constructor
      · refine' PU.defAt ?h0a ?h0l ?h0c ?h0k; (case h0a => k_is); (case h0l => k_is); (case h0c => k_is); (case h0k => k_is)
      · refine' PU.defAt ?h1a ?h1l ?h1c ?h1k; (case h1a => k_is); (case h1l => k_is); (case h1c => k_is); (case h1k => k_is)
      · refine' PU.defAt ?h2a ?h2l ?h2c ?h2k; (case h2a => k_is); (case h2l => k_is); (case h2c => k_is); (case h2k => k_is)
      · refine' PU.defAt ?h3a ?h3l ?h3c ?h3k; (case h3a => k_is); (case h3l => k_is); (case h3c => k_is); (case h3k => k_is)
      · refine' PU.defAt ?h4a ?h4l ?h4c ?h4k; (case h4a => k_is); (case h4l => k_is); (case h4c => k_is); (case h4k => k_is)
      · refine' PU.defAt ?h5a ?h5l ?h5c ?h5k; (case h5a => k_is); (case h5l => k_is); (case h5c => k_is); (case h5k => k_is)
      · refine' PU.defAt ?h6a ?h6l ?h6c ?h6k; (case h6a => k_is); (case h6l => k_is); (case h6c => k_is); (case h6k => k_is)
      · refine' PU.defAt ?h7a ?h7l ?h7c ?h7k; (case h7a => k_is); (case h7l => k_is); (case h7c => k_is); (case h7k => k_is)
      · refine' PU.defAt ?h8a ?h8l ?h8c ?h8k; (case h8a => k_is); (case h8l => k_is); (case h8c => k_is); (case h8k => k_is)
      · refine' PU.defAt ?h9a ?h9l ?h9c ?h9k; (case h9a => k_is); (case h9l => k_is); (case h9c => k_is); (case h9k => k_is)
      · refine' PU.defAt ?h10a ?h10l ?h10c ?h10k; (case h10a => k_is); (case h10l => k_is); (case h10c => k_is); (case h10k => k_is)
      · refine' PU.defAt ?h11a ?h11l ?h11c ?h11k; (case h11a => k_is); (case h11l => k_is); (case h11c => k_is); (case h11k => k_is)
      · refine' PU.defAt ?h12a ?h12l ?h12c ?h12k; (case h12a => k_is); (case h12l => k_is); (case h12c => k_is); (case h12k => k_is)
      · refine' PU.defAt ?h13a ?h13l ?h13c ?h13k; (case h13a => k_is); (case h13l => k_is); (case h13c => k_is); (case h13k => k_is)
      · refine' PU.defAt ?h14a ?h14l ?h14c ?h14k; (case h14a => k_is); (case h14l => k_is); (case h14c => k_is); (case h14k => k_is)
      · refine' PU.defAt ?h15a ?h15l ?h15c ?h15k; (case h15a => k_is); (case h15l => k_is); (case h15c => k_is); (case h15k => k_is)
      · refine' PU.defAt ?h16a ?h16l ?h16c ?h16k; (case h16a => k_is); (case h16l => k_is); (case h16c => k_is); (case h16k => k_is)
      · refine' PU.defAt ?h17a ?h17l ?h17c ?h17k; (case h17a => k_is); (case h17l => k_is); (case h17c => k_is); (case h17k => k_is)
      · refine' PU.defAt ?h18a ?h18l ?h18c ?h18k; (case h18a => k_is); (case h18l => k_is); (case h18c => k_is); (case h18k => k_is)
      · refine' PU.defAt ?h19a ?h19l ?h19c ?h19k; (case h19a => k_is); (case h19l => k_is); (case h19c => k_is); (case h19k => k_is)
      · refine' PU.defAt ?h20a ?h20l ?h20c ?h20k; (case h20a => k_is); (case h20l => k_is); (case h20c => k_is); (case h20k => k_is)
      · refine' PU.defAt ?h21a ?h21l ?h21c ?h21k; (case h21a => k_is); (case h21l => k_is); (case h21c => k_is); (case h21k => k_is)
      · refine' PU.defAt ?h22a ?h22l ?h22c ?h22k; (case h22a => k_is); (case h22l => k_is); (case h22c => k_is); (case h22k => k_is)
      · refine' PU.defAt ?h23a ?h23l ?h23c ?h23k; (case h23a => k_is); (case h23l => k_is); (case h23c => k_is); (case h23k => k_is)
      · refine' PU.defAt ?h24a ?h24l ?h24c ?h24k; (case h24a => k_is); (case h24l => k_is); (case h24c => k_is); (case h24k => k_is)
      · refine' PU.defAt ?h25a ?h25l ?h25c ?h25k; (case h25a => k_is); (case h25l => k_is); (case h25c => k_is); (case h25k => k_is)
      · refine' PU.defAt ?h26a ?h26l ?h26c ?h26k; (case h26a => k_is); (case h26l => k_is); (case h26c => k_is); (case h26k => k_is)
      · refine' PU.defAt ?h27a ?h27l ?h27c ?h27k; (case h27a => k_is); (case h27l => k_is); (case h27c => k_is); (case h27k => k_is)
      · refine' PU.defAt ?h28a ?h28l ?h28c ?h28k; (case h28a => k_is); (case h28l => k_is); (case h28c => k_is); (case h28k => k_is)
      · refine' PU.defAt ?h29a ?h29l ?h29c ?h29k; (case h29a => k_is); (case h29l => k_is); (case h29c => k_is); (case h29k => k_is)
      · refine' PU.defAt ?h30a ?h30l ?h30c ?h30k; (case h30a => k_is); (case h30l => k_is); (case h30c => k_is); (case h30k => k_is)
      · refine' PU.defAt ?h31a ?h31l ?h31c ?h31k; (case h31a => k_is); (case h31l => k_is); (case h31c => k_is); (case h31k => k_is)
      · refine' PU.defAt ?h32a ?h32l ?h32c ?h32k; (case h32a => k_is); (case h32l => k_is); (case h32c => k_is); (case h32k => k_is)
      · refine' PU.defAt ?h33a ?h33l ?h33c ?h33k; (case h33a => k_is); (case h33l => k_is); (case h33c => k_is); (case h33k => k_is)
      · refine' PU.defAt ?h34a ?h34l ?h34c ?h34k; (case h34a => k_is); (case h34l => k_is); (case h34c => k_is); (case h34k => k_is)
      · refine' PU.defAt ?h35a ?h35l ?h35c ?h35k; (case h35a => k_is); (case h35l => k_is); (case h35c => k_is); (case h35k => k_is)
      · refine' PU.defAt ?h36a ?h36l ?h36c ?h36k; (case h36a => k_is); (case h36l => k_is); (case h36c => k_is); (case h36k => k_is)
      · refine' PU.defAt ?h37a ?h37l ?h37c ?h37k; (case h37a => k_is); (case h37l => k_is); (case h37c => k_is); (case h37k => k_is)
      · refine' PU.defAt ?h38a ?h38l ?h38c ?h38k; (case h38a => k_is); (case h38l => k_is); (case h38c => k_is); (case h38k => k_is)
      · refine' PU.defAt ?h39a ?h39l ?h39c ?h39k; (case h39a => k_is); (case h39l => k_is); (case h39c => k_is); (case h39k => k_is)
      · refine' PU.defAt ?h40a ?h40l ?h40c ?h40k; (case h40a => k_is); (case h40l => k_is); (case h40c => k_is); (case h40k => k_is)
      · refine' PU.defAt ?h41a ?h41l ?h41c ?h41k; (case h41a => k_is); (case h41l => k_is); (case h41c => k_is); (case h41k => k_is)
      · refine' PU.defAt ?h42a ?h42l ?h42c ?h42k; (case h42a => k_is); (case h42l => k_is); (case h42c => k_is); (case h42k => k_is)
      · refine' PU.defAt ?h43a ?h43l ?h43c ?h43k; (case h43a => k_is); (case h43l => k_is); (case h43c => k_is); (case h43k => k_is)
      · refine' PU.defAt ?h44a ?h44l ?h44c ?h44k; (case h44a => k_is); (case h44l => k_is); (case h44c => k_is); (case h44k => k_is)
      · refine' PU.defAt ?h45a ?h45l ?h45c ?h45k; (case h45a => k_is); (case h45l => k_is); (case h45c => k_is); (case h45k => k_is)
      · refine' PU.defAt ?h46a ?h46l ?h46c ?h46k; (case h46a => k_is); (case h46l => k_is); (case h46c => k_is); (case h46k => k_is)
      · refine' PU.defAt ?h47a ?h47l ?h47c ?h47k; (case h47a => k_is); (case h47l => k_is); (case h47c => k_is); (case h47k => k_is)
      · refine' PU.defAt ?h48a ?h48l ?h48c ?h48k; (case h48a => k_is); (case h48l => k_is); (case h48c => k_is); (case h48k => k_is)
      · refine' PU.defAt ?h49a ?h49l ?h49c ?h49k; (case h49a => k_is); (case h49l => k_is); (case h49c => k_is); (case h49k => k_is)
      · refine' PU.defAt ?h50a ?h50l ?h50c ?h50k; (case h50a => k_is); (case h50l => k_is); (case h50c => k_is); (case h50k => k_is)
      · refine' PU.defAt ?h51a ?h51l ?h51c ?h51k; (case h51a => k_is); (case h51l => k_is); (case h51c => k_is); (case h51k => k_is)
      · refine' PU.defAt ?h52a ?h52l ?h52c ?h52k; (case h52a => k_is); (case h52l => k_is); (case h52c => k_is); (case h52k => k_is)
      · refine' PU.defAt ?h53a ?h53l ?h53c ?h53k; (case h53a => k_is); (case h53l => k_is); (case h53c => k_is); (case h53k => k_is)
      · refine' PU.defAt ?h54a ?h54l ?h54c ?h54k; (case h54a => k_is); (case h54l => k_is); (case h54c => k_is); (case h54k => k_is)
      · refine' PU.defAt ?h55a ?h55l ?h55c ?h55k; (case h55a => k_is); (case h55l => k_is); (case h55c => k_is); (case h55k => k_is)
      · refine' PU.defAt ?h56a ?h56l ?h56c ?h56k; (case h56a => k_is); (case h56l => k_is); (case h56c => k_is); (case h56k => k_is)
      · refine' PU.defAt ?h57a ?h57l ?h57c ?h57k; (case h57a => k_is); (case h57l => k_is); (case h57c => k_is); (case h57k => k_is)
      · refine' PU.defAt ?h58a ?h58l ?h58c ?h58k; (case h58a => k_is); (case h58l => k_is); (case h58c => k_is); (case h58k => k_is)
      · refine' PU.defAt ?h59a ?h59l ?h59c ?h59k; (case h59a => k_is); (case h59l => k_is); (case h59c => k_is); (case h59k => k_is)
      · refine' PU.defAt ?h60a ?h60l ?h60c ?h60k; (case h60a => k_is); (case h60l => k_is); (case h60c => k_is); (case h60k => k_is)
      · refine' PU.defAt ?h61a ?h61l ?h61c ?h61k; (case h61a => k_is); (case h61l => k_is); (case h61c => k_is); (case h61k => k_is)
      · refine' PU.defAt ?h62a ?h62l ?h62c ?h62k; (case h62a => k_is); (case h62l => k_is); (case h62c => k_is); (case h62k => k_is)
      · refine' PU.defAt ?h63a ?h63l ?h63c ?h63k; (case h63a => k_is); (case h63l => k_is); (case h63c => k_is); (case h63k => k_is)
      · refine' PU.defAt ?h64a ?h64l ?h64c ?h64k; (case h64a => k_is); (case h64l => k_is); (case h64c => k_is); (case h64k => k_is)
      · refine' PU.defAt ?h65a ?h65l ?h65c ?h65k; (case h65a => k_is); (case h65l => k_is); (case h65c => k_is); (case h65k => k_is)
      · refine' PU.defAt ?h66a ?h66l ?h66c ?h66k; (case h66a => k_is); (case h66l => k_is); (case h66c => k_is); (case h66k => k_is)
      · refine' PU.defAt ?h67a ?h67l ?h67c ?h67k; (case h67a => k_is); (case h67l => k_is); (case h67c => k_is); (case h67k => k_is)
      · refine' PU.defAt ?h68a ?h68l ?h68c ?h68k; (case h68a => k_is); (case h68l => k_is); (case h68c => k_is); (case h68k => k_is)
      · refine' PU.defAt ?h69a ?h69l ?h69c ?h69k; (case h69a => k_is); (case h69l => k_is); (case h69c => k_is); (case h69k => k_is)
      · refine' PU.defAt ?h70a ?h70l ?h70c ?h70k; (case h70a => k_is); (case h70l => k_is); (case h70c => k_is); (case h70k => k_is)
      · refine' PU.defAt ?h71a ?h71l ?h71c ?h71k; (case h71a => k_is); (case h71l => k_is); (case h71c => k_is); (case h71k => k_is)
      · refine' PU.defAt ?h72a ?h72l ?h72c ?h72k; (case h72a => k_is); (case h72l => k_is); (case h72c => k_is); (case h72k => k_is)
      · refine' PU.defAt ?h73a ?h73l ?h73c ?h73k; (case h73a => k_is); (case h73l => k_is); (case h73c => k_is); (case h73k => k_is)
      · refine' PU.defAt ?h74a ?h74l ?h74c ?h74k; (case h74a => k_is); (case h74l => k_is); (case h74c => k_is); (case h74k => k_is)
      · refine' PU.defAt ?h75a ?h75l ?h75c ?h75k; (case h75a => k_is); (case h75l => k_is); (case h75c => k_is); (case h75k => k_is)
      · refine' PU.tupFact ?h76e ?h76l ?h76z ?h76v; (case h76e => k_is); (case h76l => k_is); (case h76z => decide +kernel); (case h76v => exact .cons ⟨_, rfl⟩ (.cons ⟨_, rfl⟩ (.cons ⟨_, rfl⟩ (.nil))))
      · refine' PU.tupFact ?h77e ?h77l ?h77z ?h77v; (case h77e => k_is); (case h77l => k_is); (case h77z => decide +kernel); (case h77v => exact .cons ⟨_, rfl⟩ (.cons ⟨_, rfl⟩ (.nil)))
      · refine' PU.tupFact ?h78e ?h78l ?h78z ?h78v; (case h78e => k_is); (case h78l => k_is); (case h78z => decide +kernel); (case h78v => exact .cons ⟨_, rfl⟩ (.cons ⟨_, rfl⟩ (.nil)))
      · refine' PU.txtFact ?h79e ?h79q; (case h79e => k_is); (case h79q => decide +kernel)
      · k_is
      · k_is
      · k_is
      · k_is
      · k_is
      · k_is
      · k_is
      · k_is
      · k_is
      · k_is
      · k_is
      · k_is
      · k_is
      · k_is
      · k_is
      · k_is
