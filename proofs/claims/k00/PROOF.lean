import PyProof.Rows.All
import Wide.All
import OpenK.AllK
import Wide.FinOn
import KE.KStateDown
import Lean
import HandS.ForExc
import HandS.Comp
import HandS.Iter
import HandS.IsInst
import HandS.Gcd
import HandS.Wide
import HandS.WideBits
import HandS.Text
import HandS.FStr
import HandS.More
import HandS.Star
import HandS.Defaults
import HandS.HeadHook4
import HandS.Base
import HandS.Call
import HandS.Ends
import HandS.Words
import HandS.WordsExc
import HandS.Head0
import HandS.Head1
import HandS.Head2
import HandS.Head3
import HandS.HeadEnd
import HandS.HeadHook1
import HandS.HeadHook2
import HandS.HeadHook3
import PySem.Challenge.RW_howevermany_k00_fractions_in_order
set_option Elab.async false
set_option linter.all false
set_option maxRecDepth 100000
set_option maxHeartbeats 0
/-! Values with tuples as plain data: rules of the hand layer, told over them. -/
namespace DV
open PySem PySem.Spec PyProof.Rows L2

/-- a value; a tuple is told by its items -/
inductive D where
  | non | bl (b : Bool) | int (i : Int) | str (x : Str) | tup (ds : List D) | ref (a : Addr) | ty (n : String) | fls (ds : List D)
/-- a list that nobody writes -/
def SqF (K : PySem.W.Frag) (H : Hp) (a : Addr) (xs : List V) : Prop := SqL K H a xs ∧ ((∃ o, H a = some (.frz o (.lst xs))) ∨ ∃ o, K.lookup a = some o ∧ ∀ H', SqL K H' a xs)

section
variable (K : PySem.W.Frag)
mutual
inductive Rp (H : Hp) : V → D → Prop
  | non : Rp H .non .non
  | bl (b : Bool) : Rp H (.bl b) (.bl b)
  | int (i : Int) : Rp H (.int i) (.int i)
  | str (x : Str) : Rp H (.str x) (.str x)
  | ref (a : Addr) : Rp H (.ref a) (.ref a)
  | ty (n : String) : Rp H (.ty n) (.ty n)
  | tup {a : Addr} {xs : List V} {ds : List D} : SqT K H a xs → RpL H xs ds → Rp H (.ref a) (.tup ds)
  | fls {a : Addr} {xs : List V} {ds : List D} : SqF K H a xs → RpL H xs ds → Rp H (.ref a) (.fls ds)
inductive RpL (H : Hp) : List V → List D → Prop
  | nil : RpL H [] []
  | cons {v : V} {vs : List V} {d : D} {ds : List D} : Rp H v d → RpL H vs ds → RpL H (v :: vs) (d :: ds)
end
/-- tuples stay -/
structure TK (H H' : Hp) : Prop where
  t : ∀ a xs, SqT K H a xs → SqT K H' a xs
  f : ∀ a xs, SqF K H a xs → SqF K H' a xs
end
section
variable {K : PySem.W.Frag} {H H' H1 H2 : Hp}
theorem TK.refl : TK K H H := ⟨fun _ _ h => h, fun _ _ h => h⟩
theorem TK.trans (a : TK K H H1) (b : TK K H1 H2) : TK K H H2 := ⟨fun x xs h => b.t x xs (a.t x xs h), fun x xs h => b.f x xs (a.f x xs h)⟩
mutual
theorem Rp.mono (t : TK K H H') : ∀ {v : V} {d : D}, Rp K H v d → Rp K H' v d
  | _, _, .non => .non
  | _, _, .bl b => .bl b
  | _, _, .int b => .int b
  | _, _, .str b => .str b
  | _, _, .ref b => .ref b
  | _, _, .ty b => .ty b
  | _, _, .tup h r => .tup (t.t _ _ h) (RpL.mono t r)
  | _, _, .fls h r => .fls (t.f _ _ h) (RpL.mono t r)
theorem RpL.mono (t : TK K H H') : ∀ {v : List V} {d : List D}, RpL K H v d → RpL K H' v d
  | _, _, .nil => .nil
  | _, _, .cons h r => .cons (Rp.mono t h) (RpL.mono t r)
end
theorem RpL.length : ∀ {vs : List V} {ds : List D}, RpL K H vs ds → vs.length = ds.length
  | _, _, .nil => rfl
  | _, _, .cons _ r => by rw [List.length_cons, List.length_cons, RpL.length r]
theorem RpL.get : ∀ {vs : List V} {ds : List D} {i : Nat} {d : D}, RpL K H vs ds → ds[i]? = some d → ∃ v, vs[i]? = some v ∧ Rp K H v d
  | _, _, _, _, .nil, e => by simp at e
  | _, _, 0, _, .cons r _, e => by simp at e; subst e; exact ⟨_, rfl, r⟩
  | _, _, i + 1, _, .cons _ t, e => by
    obtain ⟨u, h1, h2⟩ := RpL.get (i := i) t (by simpa using e)
    exact ⟨u, by simpa using h1, h2⟩
theorem RpL.get' : ∀ {vs : List V} {ds : List D} {i : Nat} {v : V}, RpL K H vs ds → vs[i]? = some v → ∃ d, ds[i]? = some d ∧ Rp K H v d
  | _, _, _, _, .nil, e => by simp at e
  | _, _, 0, _, .cons r _, e => by simp at e; subst e; exact ⟨_, rfl, r⟩
  | _, _, i + 1, _, .cons _ t, e => by
    obtain ⟨u, h1, h2⟩ := RpL.get' (i := i) t (by simpa using e)
    exact ⟨u, by simpa using h1, h2⟩
theorem RpL.append : ∀ {xs ys : List V} {ds es : List D}, RpL K H xs ds → RpL K H ys es → RpL K H (xs ++ ys) (ds ++ es)
  | _, _, _, _, .nil, s => s
  | _, _, _, _, .cons r t, s => .cons r (RpL.append t s)
theorem RpL.set {x : V} {d : D} (r : Rp K H x d) : ∀ {xs : List V} {ds : List D} (i : Nat), RpL K H xs ds → RpL K H (xs.set i x) (ds.set i d)
  | _, _, _, .nil => .nil
  | _, _, 0, .cons _ t => .cons r t
  | _, _, i + 1, .cons q t => .cons q (RpL.set r i t)
theorem RpL.take : ∀ {xs : List V} {ds : List D} (n : Nat), RpL K H xs ds → RpL K H (xs.take n) (ds.take n)
  | _, _, 0, _ => .nil
  | _, _, _ + 1, .nil => .nil
  | _, _, n + 1, .cons r t => .cons r (RpL.take n t)
theorem RpL.drop : ∀ {xs : List V} {ds : List D} (n : Nat), RpL K H xs ds → RpL K H (xs.drop n) (ds.drop n)
  | _, _, 0, r => r
  | _, _, _ + 1, .nil => .nil
  | _, _, n + 1, .cons _ t => RpL.drop n t
theorem RpL.erase : ∀ {xs : List V} {ds : List D} (n : Nat), RpL K H xs ds → RpL K H (xs.eraseIdx n) (ds.eraseIdx n)
  | _, _, _, .nil => .nil
  | _, _, 0, .cons _ t => t
  | _, _, n + 1, .cons r t => .cons r (RpL.erase n t)
theorem Rp.int_inv {v : V} {i : Int} (h : Rp K H v (.int i)) : v = .int i := by cases h; rfl
theorem Rp.str_inv {v : V} {i : Str} (h : Rp K H v (.str i)) : v = .str i := by cases h; rfl
theorem Rp.bl_inv {v : V} {i : Bool} (h : Rp K H v (.bl i)) : v = .bl i := by cases h; rfl
theorem Rp.non_inv {v : V} (h : Rp K H v .non) : v = .non := by cases h; rfl
theorem Rp.ref_inv {v : V} {a : Addr} (h : Rp K H v (.ref a)) : v = .ref a := by cases h; rfl
theorem Rp.ty_inv {v : V} {a : String} (h : Rp K H v (.ty a)) : v = .ty a := by cases h; rfl
theorem RpL.one {vs : List V} {d : D} (h : RpL K H vs [d]) : ∃ v, vs = [v] ∧ Rp K H v d := by
  cases h with
  | cons a t => cases t; exact ⟨_, rfl, a⟩
theorem RpL.two {vs : List V} {d e : D} (h : RpL K H vs [d, e]) : ∃ v u, vs = [v, u] ∧ Rp K H v d ∧ Rp K H u e := by
  cases h with
  | cons a t =>
    obtain ⟨u, rfl, r⟩ := RpL.one t
    exact ⟨_, _, rfl, a, r⟩

theorem tk_upd {p : Addr} {o : HO} (h : ∀ xs, ¬ Rd H p (.tup xs)) (hf : ∀ ob xs, H p ≠ some (.frz ob (.lst xs))) : TK K H (upd H p o) := by
  refine ⟨fun a xs q => ?_, fun a xs q => ?_⟩
  · rcases q with q | q
    · left
      by_cases e : a = p
      · subst e; exact absurd q (h xs)
      · rcases q with q | ⟨ob, q⟩
        · exact .inl (by rw [upd_ne e]; exact q)
        · exact .inr ⟨ob, by rw [upd_ne e]; exact q⟩
    · exact .inr q
  · obtain ⟨_, ⟨ob, q⟩ | ⟨ob, lk, q⟩⟩ := q
    · have e : a ≠ p := fun z => by subst z; exact hf _ _ q
      have q2 : (upd H p o) a = some (.frz ob (.lst xs)) := by rw [upd_ne e]; exact q
      exact ⟨.inl (.inr ⟨ob, q2⟩), .inl ⟨ob, q2⟩⟩
    · exact ⟨q _, .inr ⟨ob, lk, q⟩⟩
theorem tk_new {p : Addr} {o : HO} (h : H p = none) : TK K H (upd H p o) := tk_upd (fun xs q => by
  rcases q with q | ⟨ob, q⟩ <;> rw [h] at q <;> cases q) fun ob xs q => by rw [h] at q; cases q
theorem tk_lst {p : Addr} {o : HO} {ys : List V} (h : H p = some (.lst ys)) : TK K H (upd H p o) := tk_upd (fun xs q => by
  rcases q with q | ⟨ob, q⟩ <;> rw [h] at q <;> cases q) fun ob xs q => by rw [h] at q; cases q
end

/-- what stands at a tracked address, by plain data -/
inductive LO where
  | lst (ds : List D)
  | ro (ds : List D)
abbrev LHp := Addr → Option LO
def lupd (L : LHp) (a : Addr) (o : LO) : LHp := fun b => if b = a then some o else L b
theorem lupd_same {L : LHp} {a : Addr} {o : LO} : lupd L a o a = some o := by unfold lupd; rw [if_pos rfl]
theorem lupd_ne {L : LHp} {a b : Addr} {o : LO} (h : b ≠ a) : lupd L a o b = L b := by unfold lupd; rw [if_neg h]
theorem lupd_lupd {L : LHp} {a : Addr} {o u : LO} : lupd (lupd L a o) a u = lupd L a u := by
  funext b; unfold lupd; split <;> rfl

section
variable (K : PySem.W.Frag)
def ORp (H : Hp) (a : Addr) : LO → Prop
  | .lst ds => ∃ xs, H a = some (.lst xs) ∧ RpL K H xs ds
  | .ro ds => ∃ xs, Rd H a (.lst xs) ∧ RpL K H xs ds
def HRp (L : LHp) (H : Hp) : Prop := ∀ a o, L a = some o → ORp K H a o
/-- readable as a list -/
def LRd (L : LHp) (a : Addr) (ds : List D) : Prop := L a = some (.lst ds) ∨ L a = some (.ro ds)
end
section
variable {K : PySem.W.Frag} {H H' : Hp} {L : LHp}
theorem HRp.none (h : HRp K L H) {p : Addr} (e : H p = none) : L p = none := by
  cases q : L p with
  | none => rfl
  | some o =>
    have z := h p o q
    cases o with
    | lst ds => obtain ⟨xs, r, _⟩ := z; rw [e] at r; cases r
    | ro ds => obtain ⟨xs, r, _⟩ := z; rcases r with r | ⟨_, r⟩ <;> rw [e] at r <;> cases r
theorem HRp.rd (h : HRp K L H) {a : Addr} {ds : List D} (e : LRd L a ds) : ∃ xs, SqL K H a xs ∧ RpL K H xs ds := by
  rcases e with e | e
  · obtain ⟨xs, q, r⟩ := h _ _ e
    exact ⟨xs, .inl (.inl q), r⟩
  · obtain ⟨xs, q, r⟩ := h _ _ e
    exact ⟨xs, .inl q, r⟩
theorem HRp.lst (h : HRp K L H) {a : Addr} {ds : List D} (e : L a = some (.lst ds)) : ∃ xs, H a = some (.lst xs) ∧ RpL K H xs ds := h _ _ e
/-- the heap grows by an object that L does not know -/
theorem HRp.grow (h : HRp K L H) {p : Addr} {o : HO} (e : H p = Option.none) : HRp K L (upd H p o) := fun a u q => by
  have z := h a u q
  have t : TK K H (upd H p o) := tk_new e
  have ne : a ≠ p := fun x => by rw [x, h.none e] at q; cases q
  cases u with
  | lst ds => obtain ⟨xs, r, s⟩ := z; exact ⟨xs, by rw [upd_ne ne]; exact r, s.mono t⟩
  | ro ds =>
    obtain ⟨xs, r, s⟩ := z
    refine ⟨xs, ?_, s.mono t⟩
    rcases r with r | ⟨ob, r⟩
    · exact .inl (by rw [upd_ne ne]; exact r)
    · exact .inr ⟨ob, by rw [upd_ne ne]; exact r⟩
/-- an address is written, or laid -/
theorem HRp.put (h : HRp K L H) {p : Addr} {o : HO} {u : LO} (t : TK K H (upd H p o)) (n : ORp K (upd H p o) p u) : HRp K (lupd L p u) (upd H p o) := fun a w q => by
  by_cases e : a = p
  · subst e
    rw [lupd_same] at q; cases q
    exact n
  · rw [lupd_ne e] at q
    have z := h a w q
    cases w with
    | lst ds => obtain ⟨xs, r, s⟩ := z; exact ⟨xs, by rw [upd_ne e]; exact r, s.mono t⟩
    | ro ds =>
      obtain ⟨xs, r, s⟩ := z
      refine ⟨xs, ?_, s.mono t⟩
      rcases r with r | ⟨ob, r⟩
      · exact .inl (by rw [upd_ne e]; exact r)
      · exact .inr ⟨ob, by rw [upd_ne e]; exact r⟩
theorem HRp.putL (h : HRp K L H) {p : Addr} {xs : List V} {ds : List D} (t : TK K H (upd H p (.lst xs))) (r : RpL K H xs ds) : HRp K (lupd L p (.lst ds)) (upd H p (.lst xs)) :=
  h.put t ⟨xs, upd_same, r.mono t⟩
end

/-! ### slots -/
abbrev DSt := List (Option D)
section
variable (K : PySem.W.Frag)
def RpS (H : Hp) (σ : L2.St) (τ : DSt) : Prop := σ.length = τ.length ∧ ∀ (i : Nat) (d : D), τ[i]? = some (some d) → ∃ v, σ[i]? = some (some v) ∧ Rp K H v d
structure Ins (H0 : Hp) (σ : L2.St) (H : Hp) (τ : DSt) (L : LHp) : Prop where
  tk : TK K H0 H
  sl : RpS K H σ τ
  hp : HRp K L H
end
section
variable {K : PySem.W.Frag} {H0 H H' : Hp} {σ : L2.St} {τ : DSt} {L L' : LHp}
theorem RpS.mono (t : TK K H H') (r : RpS K H σ τ) : RpS K H' σ τ := ⟨r.1, fun i d e => let ⟨v, a, b⟩ := r.2 i d e; ⟨v, a, b.mono t⟩⟩
theorem RpS.set {v : V} {d : D} (r : RpS K H σ τ) (h : Rp K H v d) (i : Nat) : RpS K H (σ.set i (some v)) (τ.set i (some d)) := by
  refine ⟨by rw [List.length_set, List.length_set]; exact r.1, fun j e q => ?_⟩
  by_cases z : i = j
  · subst z
    have hl : i < τ.length := by
      have := (List.getElem?_eq_some_iff.mp q).1
      rw [List.length_set] at this
      exact this
    rw [List.getElem?_set_self hl] at q
    cases q
    exact ⟨v, List.getElem?_set_self (by rw [r.1]; exact hl), h⟩
  · rw [List.getElem?_set_ne z] at q
    rw [List.getElem?_set_ne z]
    exact r.2 j e q
theorem Ins.to (i : Ins K H0 σ H τ L) (t : TK K H H') (h : HRp K L' H') : Ins K H0 σ H' τ L' := ⟨i.tk.trans t, i.sl.mono t, h⟩
theorem Ins.set (i : Ins K H0 σ H τ L) {v : V} {d : D} (h : Rp K H v d) (k : Nat) : Ins K H0 (σ.set k (some v)) H (τ.set k (some d)) L := ⟨i.tk, i.sl.set h k, i.hp⟩
end

/-! ### readings over plain data -/
abbrev DK := D → LHp → Prop
abbrev DE := DSt → LHp → DK → Prop
abbrev DT := DSt → LHp → (Bool → LHp → Prop) → Prop
abbrev DA := DSt → LHp → (List D → LHp → Prop) → Prop
structure DEnds where
  nx : DSt → LHp → Prop
  rt : DK
  bk : DSt → LHp → Prop := fun _ _ => False
  ct : DSt → LHp → Prop := fun _ _ => False
abbrev DS := DEnds → DSt → LHp → Prop
section
variable (K : PySem.W.Frag) (H0 : Hp)
def lE (t : DE) : TE := fun σ H Q => ∃ τ L Q', Ins K H0 σ H τ L ∧ t τ L Q' ∧ ∀ v H' d L', TK K H H' → HRp K L' H' → Rp K H' v d → Q' d L' → Q v H'
def lT (t : DT) : TT := fun σ H Q => ∃ τ L Q', Ins K H0 σ H τ L ∧ t τ L Q' ∧ ∀ b H' L', TK K H H' → HRp K L' H' → Q' b L' → Q b H'
def lA (t : DA) : TA := fun σ H Q => ∃ τ L Q', Ins K H0 σ H τ L ∧ t τ L Q' ∧ ∀ vs H' ds L', TK K H H' → HRp K L' H' → RpL K H' vs ds → Q' ds L' → Q vs H'
def lS (t : DS) : TS := fun D σ H => ∃ τ L D', Ins K H0 σ H τ L ∧ t D' τ L ∧
  (∀ σ' H' τ' L', TK K H H' → Ins K H0 σ' H' τ' L' → D'.nx τ' L' → D.nx σ' H') ∧ (∀ v H' d L', TK K H0 H' → HRp K L' H' → Rp K H' v d → D'.rt d L' → D.rt v H') ∧
  (∀ σ' H' τ' L', TK K H H' → Ins K H0 σ' H' τ' L' → D'.bk τ' L' → D.bk σ' H') ∧ (∀ σ' H' τ' L', TK K H H' → Ins K H0 σ' H' τ' L' → D'.ct τ' L' → D.ct σ' H')
end
def PD (X : Cx) (H0 : Hp) (e : Expr) (t : DE) : Prop := PE X e (lE X.K H0 t)
def PDT (X : Cx) (H0 : Hp) (e : Expr) (t : DT) : Prop := PT X e (lT X.K H0 t)
def PDW (X : Cx) (H0 : Hp) (e : Expr) (t : DT) : Prop := PW X e (lT X.K H0 t)
def PDA (X : Cx) (H0 : Hp) (es : List Expr) (t : DA) : Prop := PA X es (lA X.K H0 t)
def PDS (X : Cx) (H0 : Hp) (st : Stmt) (t : DS) : Prop := PS X st (lS X.K H0 t)
def PDSs (X : Cx) (H0 : Hp) (st : List Stmt) (t : DS) : Prop := PSs X st (lS X.K H0 t)
section
variable {X : Cx} {H0 : Hp} {e a b : Expr} {es : List Expr} {st : Stmt} {sts rest : List Stmt} {pos : Pos}
theorem PE.imp {t t' : TE} (h : PE X e t) (w : ∀ σ H Q, t' σ H Q → t σ H Q) : PE X e t' := ⟨fun pins s σ H Q I q => h.run pins s σ H Q I (w σ H Q q)⟩
theorem PT.imp {t t' : TT} (h : PT X e t) (w : ∀ σ H Q, t' σ H Q → t σ H Q) : PT X e t' := ⟨fun pins s σ H Q I q => h.run pins s σ H Q I (w σ H Q q)⟩
theorem PW.imp {t t' : TT} (h : PW X e t) (w : ∀ σ H Q, t' σ H Q → t σ H Q) : PW X e t' := ⟨fun wh pins s σ H Q I q => h.run wh pins s σ H Q I (w σ H Q q)⟩
theorem PA.imp {t t' : TA} (h : PA X es t) (w : ∀ σ H Q, t' σ H Q → t σ H Q) : PA X es t' := ⟨fun p pins s σ H Q I q => h.run p pins s σ H Q I (w σ H Q q)⟩
theorem PS.imp {t t' : TS} (h : PS X st t) (w : ∀ D σ H, t' D σ H → t D σ H) : PS X st t' := ⟨fun pins s σ H D I q => h.run pins s σ H D I (w D σ H q)⟩
theorem PSs.imp {t t' : TS} (h : PSs X sts t) (w : ∀ D σ H, t' D σ H → t D σ H) : PSs X sts t' := ⟨fun pins s σ H D I q => h.run pins s σ H D I (w D σ H q)⟩

/-! names, constants -/
def dVar (i : Nat) : DE := fun τ L Q => ∃ d, τ[i]? = some (some d) ∧ Q d L
def dC (d : D) : DE := fun _ L Q => Q d L
theorem lE_c {v : V} {d : D} (r : ∀ H, Rp X.K H v d) : ∀ σ H Q, lE X.K H0 (dC d) σ H Q → tC v σ H Q := fun σ H Q ⟨τ, L, Q', i, q, k⟩ => k v H d L .refl i.hp (r H) q
theorem pdv (i : Nat) {x : Str} {pos : Pos} (hN : X.N[i]? = some x := by rfl) (hv : Vis X.env.scope x := by first | exact Or.inl rfl | exact Or.inr (Or.inl rfl) | exact Or.inr (Or.inr rfl)) (hd : (x == ("__debug__" : Str)) = false := by decide)
    (hcd : (x == ("__classdict__" : Str)) = false := by decide) : PD X H0 (.Name x pos) (dVar i) := PE.imp (pe_var hN hv hd hcd) fun σ H Q ⟨τ, L, Q', I, ⟨d, hd, q⟩, k⟩ => by
  obtain ⟨v, hv, r⟩ := I.sl.2 i d hd
  exact ⟨v, hv, k v H d L .refl I.hp r q⟩
theorem pd_int {i j pos} : PD X H0 (.Constant (.int i) j pos) (dC (.int i)) := PE.imp pe_int (lE_c fun _ => .int i)
theorem pd_bl {i j pos} : PD X H0 (.Constant (.bool i) j pos) (dC (.bl i)) := PE.imp pe_bl (lE_c fun _ => .bl i)
theorem pd_non {j pos} : PD X H0 (.Constant .none j pos) (dC .non) := PE.imp pe_non (lE_c fun _ => .non)
theorem pd_str {i j pos} : PD X H0 (.Constant (.str i) j pos) (dC (.str i)) := PE.imp pe_str (lE_c fun _ => .str i)
theorem pd_glI {x : Str} {n : Int} {u : Value} {pos : Pos} (hg : Gl X x) (hm : X.mg x = some u) (r : RelV (.int n) u) (hd : (x == ("__debug__" : Str)) = false := by decide) : PD X H0 (.Name x pos) (dC (.int n)) := PE.imp (pe_glob hg hm r hd) (lE_c fun _ => .int n)
theorem pd_glR {x : Str} {a : Addr} {pos : Pos} (hg : Gl X x) (hm : X.mg x = some (.ref a)) (hd : (x == ("__debug__" : Str)) = false := by decide) : PD X H0 (.Name x pos) (dC (.ref a)) := PE.imp (pe_glob (v := .ref a) hg hm rfl hd) (lE_c fun _ => .ref a)
theorem pd_bltn {x : Str} {n : String} {pos : Pos} (hg : Gl X x) (hm : X.mg x = none) (hv : bootBuiltins x = some (.type n)) (hn : x ≠ "__name__" := by decide) (hd : (x == ("__debug__" : Str)) = false := by decide) : PD X H0 (.Name x pos) (dC (.ty n)) :=
  PE.imp (pe_bltn (v := .ty n) hg hm hv rfl hn hd) (lE_c fun _ => .ty n)

/-! operators -/
abbrev DR2 := D → D → LHp → DK → Prop
def Sim2 (K : PySem.W.Frag) (r : R2) (R : DR2) : Prop := ∀ x y H d e L (Q' : DK) (Q : VK), Rp K H x d → Rp K H y e → HRp K L H → R d e L Q' → (∀ v H' c L', TK K H H' → HRp K L' H' → Rp K H' v c → Q' c L' → Q v H') → r x y H Q
def dOp (R : DR2) (ta tb : DE) : DE := fun τ L Q => ta τ L fun x L1 => tb τ L1 fun y L2 => R x y L2 Q
theorem lOp {r : R2} {R : DR2} {ta tb : DE} (hR : Sim2 X.K r R) : ∀ σ H Q, lE X.K H0 (dOp R ta tb) σ H Q → tOp r (lE X.K H0 ta) (lE X.K H0 tb) σ H Q := fun σ H Q ⟨τ, L, Q', I, q, k⟩ =>
  ⟨τ, L, _, I, q, fun v H1 d L1 t1 h1 r1 q1 => ⟨τ, L1, _, I.to t1 h1, q1, fun w H2 e L2 t2 h2 r2 q2 =>
    hR v w H2 d e L2 Q' Q (r1.mono t2) r2 h2 q2 fun z H3 c L3 t3 h3 r3 q3 => k z H3 c L3 (t1.trans (t2.trans t3)) h3 r3 q3⟩⟩
theorem pd_op {op : Operator} {r : R2} {R : DR2} {ta tb : DE} (ho : OpR X (binaryOp op) r) (hR : Sim2 X.K r R) (ha : PD X H0 a ta) (hb : PD X H0 b tb) : PD X H0 (.BinOp a op b pos) (dOp R ta tb) := PE.imp (pe_op ho ha hb) (lOp hR)
theorem pd_cmp {op : CmpOp} {r : R2} {R : DR2} {ta tb : DE} (ho : OpR X (compareOp op) r) (hR : Sim2 X.K r R) (ha : PD X H0 a ta) (hb : PD X H0 b tb) (hm : behindInMarks op b = false := by first | exact nobehind _ (by decide) (by decide) | rfl) :
    PD X H0 (.Compare a [op] [b] pos) (dOp R ta tb) := PE.imp (pe_cmpR ho ha hb hm) (lOp hR)
theorem opOr {f : Value → Value → Sem Value} {r r' : R2} (h : OpR X f r) (h' : OpR X f r') : OpR X f (fun x y H Q => r x y H Q ∨ r' x y H Q) := fun pins s σ H x y v u Q I rx ry q => by
  rcases q with q | q
  · exact h pins s σ H x y v u Q I rx ry q
  · exact h' pins s σ H x y v u Q I rx ry q
end

/-! ### plain data as the model's own -/
mutual
def toP : D → PyData
  | .non => .none
  | .bl b => .bool b
  | .int i => .int i
  | .str x => .str x
  | .tup ds => .tuple (toPL ds)
  | .ref _ => .none
  | .ty _ => .none
  | .fls _ => .none
def toPL : List D → List PyData
  | [] => []
  | d :: ds => toP d :: toPL ds
end
mutual
def pur : D → Bool
  | .non => true
  | .bl _ => true
  | .int _ => true
  | .str _ => true
  | .tup ds => purL ds
  | .ref _ => false
  | .ty _ => false
  | .fls _ => false
def purL : List D → Bool
  | [] => true
  | d :: ds => pur d && purL ds
end
section
variable {K : PySem.W.Frag} {H : Hp}
mutual
theorem Rp.dp : ∀ {v : V} {d : D}, Rp K H v d → pur d = true → Dp K H v (toP d)
  | _, _, .non, _ => by rw [toP]; exact .non
  | _, _, .bl b, _ => by rw [toP]; exact .bl b
  | _, _, .int b, _ => by rw [toP]; exact .int b
  | _, _, .str b, _ => by rw [toP]; exact .str b
  | _, _, .ref b, h => by rw [pur] at h; cases h
  | _, _, .ty b, h => by rw [pur] at h; cases h
  | _, _, .tup s r, h => by rw [toP]; rw [pur] at h; exact .tup s (RpL.dp r h)
  | _, _, .fls s r, h => by rw [pur] at h; cases h
theorem RpL.dp : ∀ {v : List V} {d : List D}, RpL K H v d → purL d = true → DpAll K H v (toPL d)
  | _, _, .nil, _ => by rw [toPL]; exact .nil
  | _, _, .cons s r, h => by
    rw [purL, Bool.and_eq_true] at h
    rw [toPL]
    exact .cons (Rp.dp s h.1) (RpL.dp r h.2)
end
end
def okD (d : D) : Prop := pur d = true ∧ SeqAt.shaped (toP d) = true
def okL (ds : List D) : Prop := purL ds = true ∧ SeqAt.shaped (.list (toPL ds)) = true
def rEqv (neg : Bool) : DR2
  | .int i, .int j, L, Q => Q (.bl (xor neg (decide (i = j)))) L
  | .str i, .str j, L, Q => Q (.bl (xor neg (decide (i = j)))) L
  | .bl i, .bl j, L, Q => Q (.bl (xor neg (decide (i = j)))) L
  | .ref a, .ref b, L, Q => ∃ xs ys, LRd L a xs ∧ LRd L b ys ∧ okL xs ∧ okL ys ∧ Q (.bl (xor neg (PyData.eqvAll (toPL xs) (toPL ys)))) L
  | d, e, L, Q => okD d ∧ okD e ∧ Q (.bl (xor neg (PyData.eqv (toP d) (toP e)))) L
section
variable {X : Cx} {H0 : Hp} {a b c e : Expr} {es rest : List Expr} {pos : Pos} {ta tb tc te : DE}
theorem sim_eqv : Sim2 X.K (fun x y H Q => rEq x y H Q ∨ rEqD X.K x y H Q) (rEqv false) := by
  intro x y H d e L Q' Q rx ry hL h k
  have gen : okD d → okD e → Q' (.bl (xor false (PyData.eqv (toP d) (toP e)))) L → (rEq x y H Q ∨ rEqD X.K x y H Q) := fun hd he q =>
    .inr ⟨_, _, rx.dp hd.1, ry.dp he.1, hd.2, he.2, k _ H _ L .refl hL (.bl _) (by rw [Bool.false_xor] at q; exact q)⟩
  unfold rEqv at h
  split at h
  · cases rx.int_inv; cases ry.int_inv
    exact .inl ⟨rfl, k _ H _ L .refl hL (.bl _) (by rw [Bool.false_xor] at h; simpa using h)⟩
  · cases rx.str_inv; cases ry.str_inv
    exact .inl ⟨rfl, k _ H _ L .refl hL (.bl _) (by rw [Bool.false_xor] at h; simpa using h)⟩
  · cases rx.bl_inv; cases ry.bl_inv
    exact .inl ⟨rfl, k _ H _ L .refl hL (.bl _) (by rw [Bool.false_xor] at h; simpa using h)⟩
  · cases rx.ref_inv; cases ry.ref_inv
    obtain ⟨xs, ys, l1, l2, o1, o2, q⟩ := h
    obtain ⟨vs, s1, r1⟩ := hL.rd l1
    obtain ⟨us, s2, r2⟩ := hL.rd l2
    refine .inr ⟨_, _, .lst s1 (r1.dp o1.1), .lst s2 (r2.dp o2.1), o1.2, o2.2, k _ H _ L .refl hL (.bl _) ?_⟩
    rw [Bool.false_xor] at q
    simpa only [PyData.eqv] using q
  · exact gen h.1 h.2.1 h.2.2
theorem sim_nev : Sim2 X.K (fun x y H Q => rNe x y H Q ∨ rNeD X.K x y H Q) (rEqv true) := by
  intro x y H d e L Q' Q rx ry hL h k
  have gen : okD d → okD e → Q' (.bl (xor true (PyData.eqv (toP d) (toP e)))) L → (rNe x y H Q ∨ rNeD X.K x y H Q) := fun hd he q =>
    .inr ⟨_, _, rx.dp hd.1, ry.dp he.1, hd.2, he.2, k _ H _ L .refl hL (.bl _) (by rw [Bool.true_xor] at q; exact q)⟩
  unfold rEqv at h
  split at h
  · cases rx.int_inv; cases ry.int_inv
    exact .inl ⟨rfl, k _ H _ L .refl hL (.bl _) (by rw [Bool.true_xor] at h; simpa using h)⟩
  · cases rx.str_inv; cases ry.str_inv
    exact .inl ⟨rfl, k _ H _ L .refl hL (.bl _) (by rw [Bool.true_xor] at h; simpa using h)⟩
  · cases rx.bl_inv; cases ry.bl_inv
    exact .inl ⟨rfl, k _ H _ L .refl hL (.bl _) (by rw [Bool.true_xor] at h; simpa using h)⟩
  · cases rx.ref_inv; cases ry.ref_inv
    obtain ⟨xs, ys, l1, l2, o1, o2, q⟩ := h
    obtain ⟨vs, s1, r1⟩ := hL.rd l1
    obtain ⟨us, s2, r2⟩ := hL.rd l2
    refine .inr ⟨_, _, .lst s1 (r1.dp o1.1), .lst s2 (r2.dp o2.1), o1.2, o2.2, k _ H _ L .refl hL (.bl _) ?_⟩
    rw [Bool.true_xor] at q
    simpa only [PyData.eqv] using q
  · exact gen h.1 h.2.1 h.2.2
theorem pd_eq (hu : X.A.units + 64 < cLine) (ha : PD X H0 a ta) (hb : PD X H0 b tb) : PD X H0 (.Compare a [.Eq] [b] pos) (dOp (rEqv false) ta tb) := pd_cmp (opOr op_eq (op_eqD hu)) sim_eqv ha hb
theorem pd_ne (hu : X.A.units + 64 < cLine) (ha : PD X H0 a ta) (hb : PD X H0 b tb) : PD X H0 (.Compare a [.NotEq] [b] pos) (dOp (rEqv true) ta tb) := pd_cmp (opOr op_ne (op_neD hu)) sim_nev ha hb

/-! whole numbers -/
def rI2 (C : Int → Int → Prop) (g : Int → Int → D) : DR2
  | .int i, .int j, L, Q => C i j ∧ Q (g i j) L
  | _, _, _, _ => False
theorem sim_I {C : Int → Int → Prop} {g : Int → Int → V} {g' : Int → Int → D} (hg : ∀ i j H, Rp X.K H (g i j) (g' i j)) : Sim2 X.K (rI C g) (rI2 C g') := by
  intro x y H d e L Q' Q rx ry hL h k
  unfold rI2 at h
  split at h
  · cases rx.int_inv; cases ry.int_inv
    exact ⟨_, _, rfl, rfl, h.1, k _ H _ L .refl hL (hg _ _ _) h.2⟩
  · exact h.elim
theorem sim_I0 {g : Int → Int → V} {g' : Int → Int → D} (hg : ∀ i j H, Rp X.K H (g i j) (g' i j)) : Sim2 X.K (rI0 g) (rI2 (fun _ _ => True) g') := by
  intro x y H d e L Q' Q rx ry hL h k
  unfold rI2 at h
  split at h
  · cases rx.int_inv; cases ry.int_inv
    exact ⟨_, _, rfl, rfl, k _ H _ L .refl hL (hg _ _ _) h.2⟩
  · exact h.elim
abbrev rLtD : DR2 := rI2 (fun _ _ => True) fun i j => .bl (decide (i < j))
abbrev rLeD : DR2 := rI2 (fun _ _ => True) fun i j => .bl (decide (i ≤ j))
abbrev rGtD : DR2 := rI2 (fun _ _ => True) fun i j => .bl (decide (j < i))
abbrev rGeD : DR2 := rI2 (fun _ _ => True) fun i j => .bl (decide (j ≤ i))
theorem pd_lt (ha : PD X H0 a ta) (hb : PD X H0 b tb) : PD X H0 (.Compare a [.Lt] [b] pos) (dOp rLtD ta tb) := pd_cmp op_lt (sim_I0 fun _ _ _ => .bl _) ha hb
theorem pd_le (ha : PD X H0 a ta) (hb : PD X H0 b tb) : PD X H0 (.Compare a [.LtE] [b] pos) (dOp rLeD ta tb) := pd_cmp op_le (sim_I0 fun _ _ _ => .bl _) ha hb
theorem pd_gt (ha : PD X H0 a ta) (hb : PD X H0 b tb) : PD X H0 (.Compare a [.Gt] [b] pos) (dOp rGtD ta tb) := pd_cmp op_gt (sim_I0 fun _ _ _ => .bl _) ha hb
theorem pd_ge (ha : PD X H0 a ta) (hb : PD X H0 b tb) : PD X H0 (.Compare a [.GtE] [b] pos) (dOp rGeD ta tb) := pd_cmp op_ge (sim_I0 fun _ _ _ => .bl _) ha hb
abbrev rSubD : DR2 := rI2 (fun _ _ => True) fun i j => .int (i - j)
abbrev CMulU (i j : Int) : Prop := CMulW i j ∨ CMul i j
abbrev rMulD : DR2 := rI2 CMulU fun i j => .int (i * j)
theorem op_mulU : OpR X (binaryOp .Mult) (rI CMulU fun i j => .int (i * j)) := fun pins s σ H x y v u Q I rx ry ⟨i, j, e1, e2, hc, q⟩ => by
  rcases hc with hc | hc
  · exact op_mulW pins s σ H x y v u Q I rx ry ⟨i, j, e1, e2, hc, q⟩
  · exact op_mul pins s σ H x y v u Q I rx ry ⟨i, j, e1, e2, hc, q⟩
abbrev rDivD : DR2 := rI2 CDivW fun i j => .int (i / j)
abbrev rModD : DR2 := rI2 (fun _ j => 0 < j) fun i j => .int (i % j)
abbrev rPowD : DR2 := rI2 CPow fun i j => .int (i ^ j.toNat)
abbrev rShrD : DR2 := rI2 (fun _ j => 0 ≤ j) fun i j => .int (i / 2 ^ j.toNat)
abbrev rAndD : DR2 := rI2 (fun _ _ => True) fun i j => .int (Builtin.bitAnd i j)
theorem pd_sub (ha : PD X H0 a ta) (hb : PD X H0 b tb) : PD X H0 (.BinOp a .Sub b pos) (dOp rSubD ta tb) := pd_op op_sub (sim_I0 fun _ _ _ => .int _) ha hb
theorem pd_mul (ha : PD X H0 a ta) (hb : PD X H0 b tb) : PD X H0 (.BinOp a .Mult b pos) (dOp rMulD ta tb) := pd_op op_mulU (sim_I fun _ _ _ => .int _) ha hb
theorem pd_div (ha : PD X H0 a ta) (hb : PD X H0 b tb) : PD X H0 (.BinOp a .FloorDiv b pos) (dOp rDivD ta tb) := pd_op op_fdivW (sim_I fun _ _ _ => .int _) ha hb
theorem pd_mod (ha : PD X H0 a ta) (hb : PD X H0 b tb) : PD X H0 (.BinOp a .Mod b pos) (dOp rModD ta tb) := pd_op op_mod (sim_I fun _ _ _ => .int _) ha hb
theorem pd_pow (ha : PD X H0 a ta) (hb : PD X H0 b tb) : PD X H0 (.BinOp a .Pow b pos) (dOp rPowD ta tb) := pd_op op_pow (sim_I fun _ _ _ => .int _) ha hb
theorem pd_shr (ha : PD X H0 a ta) (hb : PD X H0 b tb) : PD X H0 (.BinOp a .RShift b pos) (dOp rShrD ta tb) := pd_op op_shr (sim_I fun _ _ _ => .int _) ha hb
theorem pd_andb (ha : PD X H0 a ta) (hb : PD X H0 b tb) : PD X H0 (.BinOp a .BitAnd b pos) (dOp rAndD ta tb) := pd_op op_and (sim_I0 fun _ _ _ => .int _) ha hb
/-- + of ints, of texts, of lists -/
def rAddD : DR2
  | .int i, .int j, L, Q => Q (.int (i + j)) L
  | .str i, .str j, L, Q => i.length + j.length ≤ sizeLine ∧ Q (.str (i ++ j)) L
  | .ref p, .ref q, L, Q => ∃ xs ys, L p = some (.lst xs) ∧ L q = some (.lst ys) ∧ xs.length + ys.length ≤ sizeLine ∧ ∀ r, L r = none → Q (.ref r) (lupd L r (.lst (xs ++ ys)))
  | _, _, _, _ => False
theorem pd_add (ha : PD X H0 a ta) (hb : PD X H0 b tb) : PD X H0 (.BinOp a .Add b pos) (dOp rAddD ta tb) := by
  refine pd_op (opOr op_add (opOr op_add_str op_cat)) ?_ ha hb
  intro x y H d e L Q' Q rx ry hL h k
  unfold rAddD at h
  split at h
  · cases rx.int_inv; cases ry.int_inv
    exact .inl ⟨_, _, rfl, rfl, k _ H _ L .refl hL (.int _) h⟩
  · cases rx.str_inv; cases ry.str_inv
    exact .inr (.inl ⟨_, _, rfl, rfl, h.1, k _ H _ L .refl hL (.str _) h.2⟩)
  · cases rx.ref_inv; cases ry.ref_inv
    obtain ⟨xs, ys, l1, l2, hz, q⟩ := h
    obtain ⟨vs, s1, r1⟩ := hL.lst l1
    obtain ⟨us, s2, r2⟩ := hL.lst l2
    refine .inr (.inr ⟨_, _, vs, us, rfl, rfl, s1, s2, by rw [r1.length, r2.length]; exact hz, fun r hr => ?_⟩)
    have t := tk_new (K := X.K) (o := .lst (vs ++ us)) hr
    exact k _ _ _ _ t (hL.putL t (r1.append r2)) (.ref r) (q r (hL.none hr))
  · exact h.elim

/-! tests, and, or, not, if else -/
def dB (t : DE) : DT := fun τ L Q => t τ L fun x L1 => ∃ c, x = .bl c ∧ Q c L1
def dAnd (t u : DT) : DT := fun τ L Q => t τ L fun c L1 => if c = true then u τ L1 Q else Q false L1
def dOr (t u : DT) : DT := fun τ L Q => t τ L fun c L1 => if c = true then Q true L1 else u τ L1 Q
def dNot (t : DT) : DT := fun τ L Q => t τ L fun c L1 => Q (!c) L1
variable {t u : DT} {op : CmpOp}
theorem pdt_val {e : Expr} {t : DE} (h : PD X H0 e t) (he : ∀ whole, isTrue e X.env whole = (do let v ← whole; standAt e.pos; holding [v] (truthy v)) := by intro _; rfl) : PDT X H0 e (dB t) :=
  PT.imp (pt_val h he) fun σ H Q ⟨τ, L, Q', I, q, k⟩ => ⟨τ, L, _, I, q, fun v H1 d L1 t1 h1 r1 ⟨c, ed, q1⟩ => by
    subst ed
    exact ⟨c, r1.bl_inv, k c H1 L1 t1 h1 q1⟩⟩
theorem pdt_cmp {r : R2} {R : DR2} (ho : OpR X (compareOp op) r) (hR : Sim2 X.K r R) (ha : PD X H0 a ta) (hb : PD X H0 b tb) (hm : behindInMarks op b = false := by first | exact nobehind _ (by decide) (by decide) | rfl) : PDT X H0 (.Compare a [op] [b] pos) (dB (dOp R ta tb)) :=
  PT.imp (pt_cmpR ho ha hb hm) fun σ H Q ⟨τ, L, Q', I, q, k⟩ => lOp hR σ H _ ⟨τ, L, _, I, q, fun v H1 d L1 t1 h1 r1 ⟨c, ed, q1⟩ => by
    subst ed
    exact ⟨c, r1.bl_inv, k c H1 L1 t1 h1 q1⟩⟩
theorem pdt_eq (hu : X.A.units + 64 < cLine) (ha : PD X H0 a ta) (hb : PD X H0 b tb) : PDT X H0 (.Compare a [.Eq] [b] pos) (dB (dOp (rEqv false) ta tb)) := pdt_cmp (opOr op_eq (op_eqD hu)) sim_eqv ha hb
theorem pdt_ne (hu : X.A.units + 64 < cLine) (ha : PD X H0 a ta) (hb : PD X H0 b tb) : PDT X H0 (.Compare a [.NotEq] [b] pos) (dB (dOp (rEqv true) ta tb)) := pdt_cmp (opOr op_ne (op_neD hu)) sim_nev ha hb
theorem pdt_lt (ha : PD X H0 a ta) (hb : PD X H0 b tb) : PDT X H0 (.Compare a [.Lt] [b] pos) (dB (dOp rLtD ta tb)) := pdt_cmp op_lt (sim_I0 fun _ _ _ => .bl _) ha hb
theorem pdt_le (ha : PD X H0 a ta) (hb : PD X H0 b tb) : PDT X H0 (.Compare a [.LtE] [b] pos) (dB (dOp rLeD ta tb)) := pdt_cmp op_le (sim_I0 fun _ _ _ => .bl _) ha hb
theorem pdt_gt (ha : PD X H0 a ta) (hb : PD X H0 b tb) : PDT X H0 (.Compare a [.Gt] [b] pos) (dB (dOp rGtD ta tb)) := pdt_cmp op_gt (sim_I0 fun _ _ _ => .bl _) ha hb
theorem pdt_ge (ha : PD X H0 a ta) (hb : PD X H0 b tb) : PDT X H0 (.Compare a [.GtE] [b] pos) (dB (dOp rGeD ta tb)) := pdt_cmp op_ge (sim_I0 fun _ _ _ => .bl _) ha hb
theorem lAnd : ∀ σ H Q, lT X.K H0 (dAnd t u) σ H Q → tAnd (lT X.K H0 t) (lT X.K H0 u) σ H Q := fun σ H Q ⟨τ, L, Q', I, q, k⟩ => ⟨τ, L, _, I, q, fun c H1 L1 t1 h1 q1 => by
  cases c with
  | true =>
    rw [if_pos rfl]
    simp only [if_true] at q1
    exact ⟨τ, L1, Q', I.to t1 h1, q1, fun b H2 L2 t2 h2 q2 => k b H2 L2 (t1.trans t2) h2 q2⟩
  | false => exact k false H1 L1 t1 h1 q1⟩
theorem lOr : ∀ σ H Q, lT X.K H0 (dOr t u) σ H Q → tOr (lT X.K H0 t) (lT X.K H0 u) σ H Q := fun σ H Q ⟨τ, L, Q', I, q, k⟩ => ⟨τ, L, _, I, q, fun c H1 L1 t1 h1 q1 => by
  cases c with
  | false =>
    rw [if_neg Bool.false_ne_true]
    simp only [if_false, Bool.false_eq_true] at q1
    exact ⟨τ, L1, Q', I.to t1 h1, q1, fun b H2 L2 t2 h2 q2 => k b H2 L2 (t1.trans t2) h2 q2⟩
  | true => exact k true H1 L1 t1 h1 q1⟩
theorem pdw_and1 (ha : PDT X H0 a t) : PDW X H0 (.BoolOp .And [a] pos) t := pw_and1 ha
theorem pdw_or1 (ha : PDT X H0 a t) : PDW X H0 (.BoolOp .Or [a] pos) t := pw_or1 ha
theorem pdw_and (ha : PDT X H0 a t) (hb : PDW X H0 (.BoolOp .And (b :: rest) pos) u) : PDW X H0 (.BoolOp .And (a :: b :: rest) pos) (dAnd t u) := PW.imp (pw_and ha hb) lAnd
theorem pdw_or (ha : PDT X H0 a t) (hb : PDW X H0 (.BoolOp .Or (b :: rest) pos) u) : PDW X H0 (.BoolOp .Or (a :: b :: rest) pos) (dOr t u) := PW.imp (pw_or ha hb) lOr
theorem PDW.pt (h : PDW X H0 e t) : PDT X H0 e t := PW.pt h
theorem pdt_not (ha : PDT X H0 a t) : PDT X H0 (.UnaryOp .Not a pos) (dNot t) := PT.imp (pt_not ha) fun σ H Q ⟨τ, L, Q', I, q, k⟩ => ⟨τ, L, _, I, q, fun c H1 L1 t1 h1 q1 => k (!c) H1 L1 t1 h1 q1⟩
def dAndV (ta tb : DE) : DE := fun τ L Q => ta τ L fun x L1 => ∃ c, x = .bl c ∧ if c = true then tb τ L1 Q else Q (.bl false) L1
def dOrV (ta tb : DE) : DE := fun τ L Q => ta τ L fun x L1 => ∃ c, x = .bl c ∧ if c = true then Q (.bl true) L1 else tb τ L1 Q
def dNotV (ta : DE) : DE := fun τ L Q => ta τ L fun x L1 => ∃ c, x = .bl c ∧ Q (.bl (!c)) L1
theorem pd_one {op} (h : PD X H0 a ta) : PD X H0 (.BoolOp op [a] pos) ta := pe_one h
theorem pd_and (ha : PD X H0 a ta) (hb : PD X H0 (.BoolOp .And (b :: rest) pos) tb) : PD X H0 (.BoolOp .And (a :: b :: rest) pos) (dAndV ta tb) := PE.imp (pe_and ha hb) fun σ H Q ⟨τ, L, Q', I, q, k⟩ => ⟨τ, L, _, I, q, fun v H1 d L1 t1 h1 r1 ⟨c, ed, q1⟩ => by
  subst ed
  refine ⟨c, r1.bl_inv, ?_⟩
  cases c with
  | true =>
    rw [if_pos rfl]
    simp only [if_true] at q1
    exact ⟨τ, L1, Q', I.to t1 h1, q1, fun b H2 d L2 t2 h2 r2 q2 => k b H2 d L2 (t1.trans t2) h2 r2 q2⟩
  | false => exact k _ H1 _ L1 t1 h1 (.bl false) q1⟩
theorem pd_or (ha : PD X H0 a ta) (hb : PD X H0 (.BoolOp .Or (b :: rest) pos) tb) : PD X H0 (.BoolOp .Or (a :: b :: rest) pos) (dOrV ta tb) := PE.imp (pe_or ha hb) fun σ H Q ⟨τ, L, Q', I, q, k⟩ => ⟨τ, L, _, I, q, fun v H1 d L1 t1 h1 r1 ⟨c, ed, q1⟩ => by
  subst ed
  refine ⟨c, r1.bl_inv, ?_⟩
  cases c with
  | false =>
    rw [if_neg Bool.false_ne_true]
    simp only [if_false, Bool.false_eq_true] at q1
    exact ⟨τ, L1, Q', I.to t1 h1, q1, fun b H2 d L2 t2 h2 r2 q2 => k b H2 d L2 (t1.trans t2) h2 r2 q2⟩
  | true => exact k _ H1 _ L1 t1 h1 (.bl true) q1⟩
theorem pd_not (ha : PD X H0 a ta) : PD X H0 (.UnaryOp .Not a pos) (dNotV ta) := PE.imp (pe_not ha) fun σ H Q ⟨τ, L, Q', I, q, k⟩ => ⟨τ, L, _, I, q, fun v H1 d L1 t1 h1 r1 ⟨c, ed, q1⟩ => by
  subst ed
  exact ⟨c, r1.bl_inv, k _ H1 _ L1 t1 h1 (.bl (!c)) q1⟩⟩
def dIf (t : DT) (ta tb : DE) : DE := fun τ L Q => t τ L fun c L1 => if c = true then ta τ L1 Q else tb τ L1 Q
theorem pd_if (hc : PDT X H0 c t) (ha : PD X H0 a ta) (hb : PD X H0 b tb) : PD X H0 (.IfExp c a b pos) (dIf t ta tb) := PE.imp (pe_ifExp hc ha hb) fun σ H Q ⟨τ, L, Q', I, q, k⟩ => ⟨τ, L, _, I, q, fun c H1 L1 t1 h1 q1 => by
  cases c with
  | true =>
    rw [if_pos rfl]
    simp only [if_true] at q1
    exact ⟨τ, L1, Q', I.to t1 h1, q1, fun b H2 d L2 t2 h2 r2 q2 => k b H2 d L2 (t1.trans t2) h2 r2 q2⟩
  | false =>
    rw [if_neg Bool.false_ne_true]
    simp only [if_false, Bool.false_eq_true] at q1
    exact ⟨τ, L1, Q', I.to t1 h1, q1, fun b H2 d L2 t2 h2 r2 q2 => k b H2 d L2 (t1.trans t2) h2 r2 q2⟩⟩

/-! argument lists, displays -/
def dNil : DA := fun _ L Q => Q [] L
def dCons (ta : DE) (tr : DA) : DA := fun τ L Q => ta τ L fun x L1 => tr τ L1 fun xs L2 => Q (x :: xs) L2
variable {tr : DA}
theorem pda_nil : PDA X H0 [] dNil := PA.imp pa_nil fun σ H Q ⟨τ, L, Q', I, q, k⟩ => k [] H [] L .refl I.hp .nil q
theorem pda_cons (ha : PD X H0 a ta) (hr : PDA X H0 es tr) (hs : starEach (a :: es) X.env = (false, eval a X.env) :: starEach es X.env := by rfl) : PDA X H0 (a :: es) (dCons ta tr) :=
  PA.imp (pa_cons ha hr hs) fun σ H Q ⟨τ, L, Q', I, q, k⟩ => ⟨τ, L, _, I, q, fun v H1 d L1 t1 h1 r1 q1 => ⟨τ, L1, _, I.to t1 h1, q1, fun vs H2 ds L2 t2 h2 r2 q2 => k (v :: vs) H2 (d :: ds) L2 (t1.trans t2) h2 (.cons (r1.mono t2) r2) q2⟩⟩
def dTup (t : DA) : DE := fun τ L Q => t τ L fun ds L1 => ds.length ≤ sizeLine ∧ Q (.tup ds) L1
def dLst (t : DA) : DE := fun τ L Q => t τ L fun ds L1 => ds.length ≤ sizeLine ∧ ∀ p, L1 p = none → Q (.ref p) (lupd L1 p (.lst ds))
theorem pd_tup {x1} (h : PDA X H0 es tr) : PD X H0 (.Tuple es x1 pos) (dTup tr) := PE.imp (pe_tup h) fun σ H Q ⟨τ, L, Q', I, q, k⟩ => ⟨τ, L, _, I, q, fun vs H1 ds L1 t1 h1 r1 ⟨hz, q1⟩ =>
  ⟨by rw [r1.length]; exact hz, fun p hp => k _ _ _ L1 (t1.trans (tk_new hp)) (h1.grow hp) (.tup (.inl (.inl upd_same)) (r1.mono (tk_new hp))) q1⟩⟩
theorem pd_lst (h : PDA X H0 es tr) : PD X H0 (.List es pos) (dLst tr) := PE.imp (pe_lst h) fun σ H Q ⟨τ, L, Q', I, q, k⟩ => ⟨τ, L, _, I, q, fun vs H1 ds L1 t1 h1 r1 ⟨hz, q1⟩ =>
  ⟨by rw [r1.length]; exact hz, fun p hp => k _ _ _ _ (t1.trans (tk_new hp)) (h1.putL (tk_new hp) r1) (.ref p) (q1 p (h1.none hp))⟩⟩
end

/-! ### subscripts, slices -/
def rIxD : DR2
  | .tup ds, .int i, L, Q => ∃ d, atI ds i = some d ∧ Q d L
  | .fls ds, .int i, L, Q => ∃ d, atI ds i = some d ∧ Q d L
  | .ref a, .int i, L, Q => ∃ ds d, LRd L a ds ∧ atI ds i = some d ∧ Q d L
  | .str z, .int i, L, Q => z.length ≤ sizeLine ∧ ∃ c, atI z.cps.toList i = some c ∧ Q (.str ⟨#[c]⟩) L
  | _, _, _, _ => False
theorem at_rp {K : PySem.W.Frag} {H : Hp} {xs : List V} {ds : List D} {i : Int} {d : D} (r : RpL K H xs ds) (h : atI ds i = some d) : ∃ v, atI xs i = some v ∧ Rp K H v d := by
  unfold atI at h ⊢
  rw [r.length]
  cases e : ixN ds.length i with
  | none => rw [e] at h; cases h
  | some j =>
    rw [e] at h
    exact r.get (show ds[j]? = some d from h)
section
variable {X : Cx} {H0 : Hp} {a b c e : Expr} {es rest : List Expr} {pos p2 : Pos} {ta tb tc te : DE} {tr : DA}
theorem pd_ix (ha : PD X H0 a ta) (hb : PD X H0 b tb) (hs : PlainIx b := by exact fun _ _ => rfl) : PD X H0 (.Subscript a b pos) (dOp rIxD ta tb) := PE.imp (pe_ix ix_seq ha hb hs) (lOp (by
  intro x y H d e L Q' Q rx ry hL h k
  unfold rIxD at h
  split at h
  · obtain ⟨d, hd, q⟩ := h
    cases ry.int_inv
    cases rx with
    | tup s r =>
      obtain ⟨v, hv, rv⟩ := at_rp r hd
      exact .inr (.inl ⟨_, _, _, _, rfl, rfl, s, hv, k _ H _ L .refl hL rv q⟩)
  · obtain ⟨d, hd, q⟩ := h
    cases ry.int_inv
    cases rx with
    | fls s r =>
      obtain ⟨v, hv, rv⟩ := at_rp r hd
      exact .inl ⟨_, _, _, _, rfl, rfl, s.1, hv, k _ H _ L .refl hL rv q⟩
  · obtain ⟨ds, d, hl, hd, q⟩ := h
    cases rx.ref_inv; cases ry.int_inv
    obtain ⟨xs, s, r⟩ := hL.rd hl
    obtain ⟨v, hv, rv⟩ := at_rp r hd
    exact .inl ⟨_, _, _, _, rfl, rfl, s, hv, k _ H _ L .refl hL rv q⟩
  · obtain ⟨hz, c, hc, q⟩ := h
    cases rx.str_inv; cases ry.int_inv
    exact .inr (.inr ⟨_, _, _, rfl, rfl, hz, hc, k _ H _ L .refl hL (.str _) q⟩)
  · exact h.elim))
abbrev DO := DSt → LHp → (Option Int → LHp → Prop) → Prop
def lO (K : PySem.W.Frag) (H0 : Hp) (t : DO) : TO := fun σ H Q => ∃ τ L Q', Ins K H0 σ H τ L ∧ t τ L Q' ∧ ∀ b H' L', TK K H H' → HRp K L' H' → Q' b L' → Q b H'
def PDO (X : Cx) (H0 : Hp) (e : Option Expr) (t : DO) : Prop := PO X e (lO X.K H0 t)
theorem PO.imp {e : Option Expr} {t t' : TO} (h : PO X e t) (w : ∀ σ H Q, t' σ H Q → t σ H Q) : PO X e t' := ⟨fun pins s σ H Q I q => h.run pins s σ H Q I (w σ H Q q)⟩
def dNoPart : DO := fun _ L Q => Q none L
def dPart (t : DE) : DO := fun τ L Q => t τ L fun x L1 => ∃ i, x = .int i ∧ Q (some i) L1
theorem pdo_none : PDO X H0 none dNoPart := PO.imp po_none fun σ H Q ⟨τ, L, Q', I, q, k⟩ => k none H L .refl I.hp q
theorem pdo_some (h : PD X H0 e te) : PDO X H0 (some e) (dPart te) := PO.imp (po_some h) fun σ H Q ⟨τ, L, Q', I, q, k⟩ => ⟨τ, L, _, I, q, fun v H1 d L1 t1 h1 r1 ⟨i, ed, q1⟩ => by
  subst ed
  exact ⟨i, r1.int_inv, k _ H1 L1 t1 h1 q1⟩⟩
def cutD (xs : List D) (lo hi : Option Int) : List D := (xs.drop (HT.sIx xs.length 0 lo)).take (HT.sIx xs.length xs.length hi - HT.sIx xs.length 0 lo)
def rSlD : D → Option Int → Option Int → LHp → DK → Prop
  | .str z, lo, hi, L, Q => z.length ≤ sizeLine ∧ Q (.str (cutS z lo hi)) L
  | .ref a, lo, hi, L, Q => ∃ ds, LRd L a ds ∧ ∀ p, L p = none → Q (.ref p) (lupd L p (.lst (cutD ds lo hi)))
  | _, _, _, _, _ => False
def dSl (te : DE) (tl th : DO) : DE := fun τ L Q => te τ L fun x L1 => tl τ L1 fun l L2 => th τ L2 fun u L3 => rSlD x l u L3 Q
theorem pd_slice {lo hi : Option Expr} {tl th : DO} (he : PD X H0 e te) (hl : PDO X H0 lo tl) (hu : PDO X H0 hi th) : PD X H0 (.Subscript e (.Slice lo hi none p2) pos) (dSl te tl th) :=
  PE.imp (pe_slice (SlR.or sl_str sl_list) he hl hu) fun σ H Q ⟨τ, L, Q', I, q, k⟩ => ⟨τ, L, _, I, q, fun v H1 d L1 t1 h1 r1 q1 => ⟨τ, L1, _, I.to t1 h1, q1, fun l H2 L2 t2 h2 q2 => ⟨τ, L2, _, (I.to t1 h1).to t2 h2, q2, fun u H3 L3 t3 h3 q3 => by
    have r3 := r1.mono (t2.trans t3)
    have t123 := t1.trans (t2.trans t3)
    unfold rSlD at q3
    split at q3
    · cases r3.str_inv
      exact .inl ⟨_, rfl, q3.1, k _ _ _ _ t123 h3 (.str _) q3.2⟩
    · cases r3.ref_inv
      obtain ⟨ds, hd, q3⟩ := q3
      obtain ⟨xs, s, r⟩ := h3.rd hd
      refine .inr ⟨_, xs, rfl, s, fun p hp => ?_⟩
      have r' : RpL X.K H3 (cutV xs l u) (cutD ds l u) := by
        unfold cutV cutD
        rw [r.length]
        exact (r.drop _).take _
      exact k _ _ _ _ (t123.trans (tk_new hp)) (h3.putL (tk_new hp) r') (.ref p) (q3 p (h3.none hp))
    · exact q3.elim⟩⟩⟩

/-! ### built-in calls -/
abbrev DRC := List D → LHp → DK → Prop
def SimC (K : PySem.W.Frag) (r : List V → Hp → VK → Prop) (R : DRC) : Prop := ∀ xs H ds L (Q' : DK) (Q : VK), RpL K H xs ds → HRp K L H → R ds L Q' → (∀ v H' c L', TK K H H' → HRp K L' H' → Rp K H' v c → Q' c L' → Q v H') → r xs H Q
def dCB (R : DRC) (t : DA) : DE := fun τ L Q => t τ L fun ds L1 => R ds L1 Q
theorem lCB {r : List V → Hp → VK → Prop} {R : DRC} (hR : SimC X.K r R) : ∀ σ H Q, lE X.K H0 (dCB R tr) σ H Q → tCB r (lA X.K H0 tr) σ H Q := fun σ H Q ⟨τ, L, Q', I, q, k⟩ => ⟨τ, L, _, I, q, fun vs H1 ds L1 t1 h1 r1 q1 =>
  hR vs H1 ds L1 Q' Q r1 h1 q1 fun v H' c L' t2 h2 r2 q2 => k v H' c L' (t1.trans t2) h2 r2 q2⟩
theorem callOr {f : Value} {r r' : List V → Hp → VK → Prop} (h : CallR X f r) (h' : CallR X f r') : CallR X f (fun xs H Q => r xs H Q ∨ r' xs H Q) := fun pins s σ H xs us Q I rv q => by
  rcases q with q | q
  · exact h pins s σ H xs us Q I rv q
  · exact h' pins s σ H xs us Q I rv q
theorem pd_cb {id : String} {x : Str} {p : Pos} {r : List V → Hp → VK → Prop} {R : DRC} (hc : CallR X (.builtin id) r) (hR : SimC X.K r R) (hg : Gl X x) (hm : X.mg x = none) (hv : bootBuiltins x = some (.builtin id)) (ha : PDA X H0 (e :: es) tr) (hn : x ≠ "__name__" := by decide) (hdb : (x == ("__debug__" : Str)) = false := by decide)
    (he : starEach (e :: es) X.env = (false, eval e X.env) :: starEach es X.env := by rfl) (hpl : (backTo pos (starEach es X.env)).any (·.1) = false := by rfl) : PD X H0 (.Call (.Name x p) (e :: es) [] pos) (dCB R tr) := PE.imp (pe_callB hc hg hm hv ha hn hdb he hpl) (lCB hR)
theorem pd_cty {T : String} {x : Str} {p : Pos} {r : List V → Hp → VK → Prop} {R : DRC} (hc : CallR X (.type T) r) (hR : SimC X.K r R) (hg : Gl X x) (hm : X.mg x = none) (hv : bootBuiltins x = some (.type T)) (ha : PDA X H0 (e :: es) tr) (hn : x ≠ "__name__" := by decide) (hdb : (x == ("__debug__" : Str)) = false := by decide)
    (he : starEach (e :: es) X.env = (false, eval e X.env) :: starEach es X.env := by rfl) (hpl : (backTo pos (starEach es X.env)).any (·.1) = false := by rfl) : PD X H0 (.Call (.Name x p) (e :: es) [] pos) (dCB R tr) := PE.imp (pe_callTy hc hg hm hv ha hn hdb he hpl) (lCB hR)

def rLenD : DRC
  | [.tup ds], L, Q => Q (.int ds.length) L
  | [.fls ds], L, Q => Q (.int ds.length) L
  | [.ref a], L, Q => ∃ ds, LRd L a ds ∧ Q (.int ds.length) L
  | [.str z], L, Q => z.length ≤ sizeLine ∧ Q (.int z.length) L
  | _, _, _ => False
theorem sim_len : SimC X.K (fun xs H Q => ∃ x n, xs = [x] ∧ LenV X.K x H n ∧ Q (.int n) H) rLenD := by
  intro xs H ds L Q' Q r hL h k
  unfold rLenD at h
  split at h
  · obtain ⟨v, rfl, rv⟩ := r.one
    cases rv with
    | tup s r2 => exact ⟨_, _, rfl, .inr ⟨_, s, rfl⟩, k _ H _ L .refl hL (.int _) (by rw [r2.length]; exact h)⟩
  · obtain ⟨v, rfl, rv⟩ := r.one
    cases rv with
    | fls s r2 => exact ⟨_, _, rfl, .inl ⟨_, s.1, rfl⟩, k _ H _ L .refl hL (.int _) (by rw [r2.length]; exact h)⟩
  · obtain ⟨v, rfl, rv⟩ := r.one
    obtain ⟨ds, hd, q⟩ := h
    cases rv.ref_inv
    obtain ⟨xs, s, r2⟩ := hL.rd hd
    exact ⟨_, _, rfl, .inl ⟨_, s, rfl⟩, k _ H _ L .refl hL (.int _) (by rw [r2.length]; exact q)⟩
  · obtain ⟨v, rfl, rv⟩ := r.one
    cases rv.str_inv
    exact ⟨_, _, rfl, ⟨h.1, rfl⟩, k _ H _ L .refl hL (.int _) h.2⟩
  · exact h.elim
def rIntD : DRC
  | [.int i], L, Q => Q (.int i) L
  | [.bl b], L, Q => Q (.int (if b then 1 else 0)) L
  | [.str a], L, Q => ∃ n, PySem.intText? a = some n ∧ a.length ≤ 640 ∧ Q (.int n) L
  | _, _, _ => False
theorem call_intU : CallR X (.type "int") (fun xs H Q => ((∃ i, xs = [.int i] ∧ Q (.int i) H) ∨ ∃ k, xs = [.bl k] ∧ Q (.int (if k then 1 else 0)) H) ∨ (∃ a n, xs = [.str a] ∧ PySem.intText? a = some n ∧ a.length ≤ 640 ∧ Q (.int n) H)) := callOr call_int1 call_int_str
theorem sim_int : SimC X.K (fun xs H Q => ((∃ i, xs = [.int i] ∧ Q (.int i) H) ∨ ∃ k, xs = [.bl k] ∧ Q (.int (if k then 1 else 0)) H) ∨ (∃ a n, xs = [.str a] ∧ PySem.intText? a = some n ∧ a.length ≤ 640 ∧ Q (.int n) H)) rIntD := by
  intro xs H ds L Q' Q r hL h k
  unfold rIntD at h
  split at h
  · obtain ⟨v, rfl, rv⟩ := r.one
    cases rv.int_inv
    exact .inl (.inl ⟨_, rfl, k _ H _ L .refl hL (.int _) h⟩)
  · obtain ⟨v, rfl, rv⟩ := r.one
    cases rv.bl_inv
    exact .inl (.inr ⟨_, rfl, k _ H _ L .refl hL (.int _) h⟩)
  · obtain ⟨v, rfl, rv⟩ := r.one
    cases rv.str_inv
    obtain ⟨n, h1, h2, q⟩ := h
    exact .inr ⟨_, n, rfl, h1, h2, k _ H _ L .refl hL (.int _) q⟩
  · exact h.elim
def rStrD : DRC
  | [.int i], L, Q => i.natAbs.log2 < 1920 ∧ Q (.str (toString i)) L
  | _, _, _ => False
theorem sim_str : SimC X.K (fun xs H Q => ∃ i, xs = [.int i] ∧ i.natAbs.log2 < 1920 ∧ Q (.str (toString i)) H) rStrD := by
  intro xs H ds L Q' Q r hL h k
  unfold rStrD at h
  split at h
  · obtain ⟨v, rfl, rv⟩ := r.one
    cases rv.int_inv
    exact ⟨_, rfl, h.1, k _ H _ L .refl hL (.str _) h.2⟩
  · exact h.elim
def rAbsD : DRC
  | [.int i], L, Q => Q (.int (if i < 0 then -i else i)) L
  | _, _, _ => False
theorem sim_abs : SimC X.K (fun xs H Q => ∃ i, xs = [.int i] ∧ Q (.int (if i < 0 then -i else i)) H) rAbsD := by
  intro xs H ds L Q' Q r hL h k
  unfold rAbsD at h
  split at h
  · obtain ⟨v, rfl, rv⟩ := r.one
    cases rv.int_inv
    exact ⟨_, rfl, k _ H _ L .refl hL (.int _) h⟩
  · exact h.elim
def rI2C (g : Int → Int → Int) : DRC
  | [.int i, .int j], L, Q => Q (.int (g i j)) L
  | _, _, _ => False
theorem sim_I2C {g : Int → Int → Int} : SimC X.K (fun xs H Q => ∃ i j, xs = [.int i, .int j] ∧ Q (.int (g i j)) H) (rI2C g) := by
  intro xs H ds L Q' Q r hL h k
  unfold rI2C at h
  split at h
  · obtain ⟨v, u, rfl, rv, ru⟩ := r.two
    cases rv.int_inv; cases ru.int_inv
    exact ⟨_, _, rfl, k _ H _ L .refl hL (.int _) h⟩
  · exact h.elim
abbrev rMaxD : DRC := rI2C fun i j => if j > i then j else i
abbrev rMinD : DRC := rI2C fun i j => if j < i then j else i
abbrev rGcdD : DRC := rI2C fun i j => ((Nat.gcd i.natAbs j.natAbs : Nat) : Int)
/-- the built-in type of a value -/
def tyD (L : LHp) : D → String → Prop
  | .non, t => t = "NoneType"
  | .bl _, t => t = "bool"
  | .int _, t => t = "int"
  | .str _, t => t = "str"
  | .tup _, t => t = "tuple"
  | .ref a, t => (∃ ds, LRd L a ds) ∧ t = "list"
  | .ty _, _ => False
  | .fls _, _ => False
theorem tyX_of {K : PySem.W.Frag} {H : Hp} {L : LHp} {v : V} {d : D} {t : String} (r : Rp K H v d) (hL : HRp K L H) (h : tyD L d t) : TyX K H v (.type t) := by
  cases d with
  | non => cases r.non_inv; cases (show t = "NoneType" from h); exact .base .non
  | bl b => cases r.bl_inv; cases (show t = "bool" from h); exact .base (.bl _)
  | int b => cases r.int_inv; cases (show t = "int" from h); exact .base (.int _)
  | str b => cases r.str_inv; cases (show t = "str" from h); exact .base (.str _)
  | tup ds =>
    cases (show t = "tuple" from h)
    cases r with
    | tup s _ =>
      rcases s with (s | ⟨o, s⟩) | ⟨o, its, n, s, c, _⟩
      · exact .base (.tup s)
      · exact .fTuple s
      · exact .kTuple s c
  | ref a =>
    obtain ⟨⟨ds, hd⟩, e⟩ := (show (∃ ds, LRd L a ds) ∧ t = "list" from h)
    cases r.ref_inv; cases e
    obtain ⟨xs, s, _⟩ := hL.rd hd
    rcases s with (s | ⟨o, s⟩) | ⟨o, its, n, s, c, _⟩
    · exact .base (.lst s)
    · exact .base (.frz s)
    · exact .kList s c
  | ty n => exact (show False from h).elim
  | fls n => exact (show False from h).elim
def rIsiD : DRC
  | [d, .ty n], L, Q => ∃ t b, tyD L d t ∧ kitB t n = some b ∧ Q (.bl b) L
  | _, _, _ => False
theorem sim_isi : SimC X.K (rIsi X.K) rIsiD := by
  intro xs H ds L Q' Q r hL h k
  unfold rIsiD at h
  split at h
  · obtain ⟨v, u, rfl, rv, ru⟩ := r.two
    cases ru.ty_inv
    obtain ⟨t, b, h1, h2, q⟩ := h
    exact ⟨v, _, _, _, b, rfl, .ty _, tyX_of rv hL h1, kit_ty h2, k _ H _ L .refl hL (.bl _) q⟩
  · exact h.elim
def rListD : DRC
  | [.ref a], L, Q => ∃ ds, LRd L a ds ∧ ∀ p, L p = none → Q (.ref p) (lupd L p (.lst ds))
  | [.tup ds], L, Q => ∀ p, L p = none → Q (.ref p) (lupd L p (.lst ds))
  | _, _, _ => False
theorem sim_list : SimC X.K (fun xs H Q => ∃ p ys, xs = [.ref p] ∧ (SqL X.K H p ys ∨ SqT X.K H p ys) ∧ ∀ l, H l = none → Q (.ref l) (upd H l (.lst ys))) rListD := by
  intro xs H ds L Q' Q r hL h k
  unfold rListD at h
  split at h
  · obtain ⟨v, rfl, rv⟩ := r.one
    obtain ⟨ds, hd, q⟩ := h
    cases rv.ref_inv
    obtain ⟨xs, s, r2⟩ := hL.rd hd
    exact ⟨_, _, rfl, .inl s, fun p hp => k _ _ _ _ (tk_new hp) (hL.putL (tk_new hp) r2) (.ref p) (q p (hL.none hp))⟩
  · obtain ⟨v, rfl, rv⟩ := r.one
    cases rv with
    | tup s r2 => exact ⟨_, _, rfl, .inr s, fun p hp => k _ _ _ _ (tk_new hp) (hL.putL (tk_new hp) r2) (.ref p) (h p (hL.none hp))⟩
  · exact h.elim
def rAllD : DRC
  | [.ref a], L, Q => ∃ bs : List Bool, LRd L a (bs.map .bl) ∧ Q (.bl (bs.all id)) L
  | _, _, _ => False
theorem rp_bls {K : PySem.W.Frag} {H : Hp} : ∀ {bs : List Bool} {xs : List V}, RpL K H xs (bs.map .bl) → xs = bs.map .bl
  | [], _, r => by cases r; rfl
  | b :: bs, _, r => by
    rw [List.map_cons] at r
    cases r with
    | cons r1 r2 =>
      cases r1.bl_inv
      rw [rp_bls r2, List.map_cons]
theorem sim_all : SimC X.K (rAll X.K) rAllD := by
  intro xs H ds L Q' Q r hL h k
  unfold rAllD at h
  split at h
  · obtain ⟨v, rfl, rv⟩ := r.one
    obtain ⟨bs, hd, q⟩ := h
    cases rv.ref_inv
    obtain ⟨xs, s, r2⟩ := hL.rd hd
    cases rp_bls r2
    exact ⟨_, bs, rfl, s, k _ H _ L .refl hL (.bl _) q⟩
  · exact h.elim
theorem pd_gcd {x : Str} {p : Pos} (hg : Gl X x) (hm : X.mg x = some (.builtin "math.gcd")) (ha : PDA X H0 (e :: es) tr) (hdb : (x == ("__debug__" : Str)) = false := by decide)
    (he : starEach (e :: es) X.env = (false, eval e X.env) :: starEach es X.env := by rfl) (hpl : (backTo pos (starEach es X.env)).any (·.1) = false := by rfl) : PD X H0 (.Call (.Name x p) (e :: es) [] pos) (dCB rGcdD tr) := PE.imp (pe_callBfun cr_gcd hg hm ha hdb he hpl) (lCB sim_I2C)
def dBits (t : DE) : DE := fun τ L Q => t τ L fun x L1 => ∃ i, x = .int i ∧ Q (.int (Builtin.Int.intBits i : Nat)) L1
theorem pd_bits {o : Expr} {to : DE} {apos pos : Pos} (ho : PD X H0 o to) (hbase : attributeBase o "bit_length" X.env (eval o X.env) = eval o X.env := by rfl) (hline : (apos.endLine == pos.line) = true := by rfl) : PD X H0 (.Call (.Attribute o "bit_length" apos) [] [] pos) (dBits to) :=
  PE.imp (pe_bits ho hbase hline) fun σ H Q ⟨τ, L, Q', I, q, k⟩ => ⟨τ, L, _, I, q, fun v H1 d L1 t1 h1 r1 ⟨i, ed, q1⟩ => by
    subst ed
    exact ⟨i, r1.int_inv, k _ H1 _ L1 t1 h1 (.int _) q1⟩⟩

/-! ### methods of lists and texts -/
abbrev DRM := D → List D → LHp → DK → Prop
def SimM (K : PySem.W.Frag) (r : V → List V → Hp → VK → Prop) (R : DRM) : Prop := ∀ x xs H d ds L (Q' : DK) (Q : VK), Rp K H x d → RpL K H xs ds → HRp K L H → R d ds L Q' → (∀ v H' c L', TK K H H' → HRp K L' H' → Rp K H' v c → Q' c L' → Q v H') → r x xs H Q
def tyM (T : String) (L : LHp) : D → Prop
  | .str _ => T = "str"
  | .ref a => T = "list" ∧ ∃ ds, LRd L a ds
  | _ => False
theorem tyV_of {K : PySem.W.Frag} {H : Hp} {L : LHp} {T : String} {v : V} {d : D} (r : Rp K H v d) (hL : HRp K L H) (h : tyM T L d) : tyV K T v H := by
  cases d with
  | str z => cases r.str_inv; exact h
  | ref a =>
    cases r.ref_inv
    obtain ⟨e, ds, hd⟩ := (show T = "list" ∧ ∃ ds, LRd L a ds from h)
    obtain ⟨xs, s, _⟩ := hL.rd hd
    exact .inl ⟨e, xs, s⟩
  | _ => exact (show False from h).elim
def dBM (T : String) (R : DRM) (to : DE) (t : DA) : DE := fun τ L Q => to τ L fun x L1 => tyM T L1 x ∧ t τ L1 fun ds L2 => R x ds L2 Q
theorem pd_bm {o : Expr} {to : DE} {name : Str} {apos cpos : Pos} {T id : String} {r : V → List V → Hp → VK → Prop} {R : DRM} (pa : PlainAttrs T) (slot : Slot T name id) (hty : typeOf (.builtin id) = pure (.type "method_descriptor")) (hm : MtR X id r) (hR : SimM X.K r R) (ho : PD X H0 o to) (ha : PDA X H0 (e :: es) tr)
    (hbase : attributeBase o name X.env (eval o X.env) = eval o X.env := by rfl)
    (hfew : ((backTo cpos (starEach (e :: es) X.env)).all (fun x => !x.1) && (backToKw cpos (keywordEach [] X.env)).all (fun x => x.1.isSome)
      && decide ((e :: es).length + ([] : List Keyword).length + (if ([] : List Keyword).isEmpty then 0 else 1) < 30)) = true := by rfl)
    (hline : (apos.endLine == cpos.line) = true := by rfl) (hs : starEach (e :: es) X.env = (false, eval e X.env) :: starEach es X.env := by rfl) (hplain : (backTo cpos (starEach es X.env)).any (·.1) = false := by rfl) :
    PD X H0 (.Call (.Attribute o name apos) (e :: es) [] cpos) (dBM T R to tr) := PE.imp (pe_bm pa slot hty hm ho ha hbase hfew hline hs hplain) fun σ H Q ⟨τ, L, Q', I, q, k⟩ => ⟨τ, L, _, I, q, fun v H1 d L1 t1 h1 r1 ⟨ty, q1⟩ =>
      ⟨tyV_of r1 h1 ty, τ, L1, _, I.to t1 h1, q1, fun vs H2 ds L2 t2 h2 r2 q2 => hR v vs H2 d ds L2 Q' Q (r1.mono t2) r2 h2 q2 fun u H3 c L3 t3 h3 r3 q3 => k u H3 c L3 (t1.trans (t2.trans t3)) h3 r3 q3⟩⟩
def rAppD : DRM
  | .ref a, [d], L, Q => ∃ xs, L a = some (.lst xs) ∧ xs.length < sizeLine ∧ Q .non (lupd L a (.lst (xs ++ [d])))
  | _, _, _, _ => False
theorem sim_app : SimM X.K rAppend rAppD := by
  intro x xs H d ds L Q' Q rx r hL h k
  unfold rAppD at h
  split at h
  · obtain ⟨v, rfl, rv⟩ := r.one
    obtain ⟨ys, hl, hz, q⟩ := h
    cases rx.ref_inv
    obtain ⟨vs, hv, r2⟩ := hL.lst hl
    exact ⟨_, vs, v, rfl, rfl, hv, by rw [r2.length]; exact hz, k _ _ _ _ (tk_lst hv) (hL.putL (tk_lst hv) (r2.append (.cons rv .nil))) .non q⟩
  · exact h.elim
theorem pd_append {o : Expr} {to : DE} {apos cpos : Pos} (ho : PD X H0 o to) (ha : PDA X H0 (e :: es) tr) (hbase : attributeBase o "append" X.env (eval o X.env) = eval o X.env := by rfl)
    (hfew : ((backTo cpos (starEach (e :: es) X.env)).all (fun x => !x.1) && (backToKw cpos (keywordEach [] X.env)).all (fun x => x.1.isSome)
      && decide ((e :: es).length + ([] : List Keyword).length + (if ([] : List Keyword).isEmpty then 0 else 1) < 30)) = true := by rfl)
    (hline : (apos.endLine == cpos.line) = true := by rfl) (hs : starEach (e :: es) X.env = (false, eval e X.env) :: starEach es X.env := by rfl) (hplain : (backTo cpos (starEach es X.env)).any (·.1) = false := by rfl) :
    PD X H0 (.Call (.Attribute o "append" apos) (e :: es) [] cpos) (dBM "list" rAppD to tr) := pd_bm PySem.F.plainAttrs_list PySem.F.slot_list_append PySem.F.type_list_append mt_append sim_app ho ha hbase hfew hline hs hplain
def rPopD : DRM
  | .ref a, [.int i], L, Q => ∃ xs k y, L a = some (.lst xs) ∧ (-(2 ^ 63) ≤ i ∧ i < 2 ^ 63) ∧ seqIndex? i xs.length = some k ∧ xs[k]? = some y ∧ Q y (lupd L a (.lst (xs.eraseIdx k)))
  | _, _, _, _ => False
theorem sim_pop : SimM X.K rPopAt rPopD := by
  intro x xs H d ds L Q' Q rx r hL h k
  unfold rPopD at h
  split at h
  · obtain ⟨v, rfl, rv⟩ := r.one
    obtain ⟨ys, j, y, hl, ⟨h0, h1⟩, hi, hj, q⟩ := h
    cases rx.ref_inv; cases rv.int_inv
    obtain ⟨vs, hv, r2⟩ := hL.lst hl
    obtain ⟨u, hu, ru⟩ := r2.get hj
    exact ⟨_, vs, _, j, u, rfl, rfl, hv, h0, h1, by rw [r2.length]; exact hi, hu, k _ _ _ _ (tk_lst hv) (hL.putL (tk_lst hv) (r2.erase j)) (ru.mono (tk_lst hv)) q⟩
  · exact h.elim
theorem pd_popAt {o : Expr} {to : DE} {apos cpos : Pos} (ho : PD X H0 o to) (ha : PDA X H0 (e :: es) tr) (hbase : attributeBase o "pop" X.env (eval o X.env) = eval o X.env := by rfl)
    (hfew : ((backTo cpos (starEach (e :: es) X.env)).all (fun x => !x.1) && (backToKw cpos (keywordEach [] X.env)).all (fun x => x.1.isSome)
      && decide ((e :: es).length + ([] : List Keyword).length + (if ([] : List Keyword).isEmpty then 0 else 1) < 30)) = true := by rfl)
    (hline : (apos.endLine == cpos.line) = true := by rfl) (hs : starEach (e :: es) X.env = (false, eval e X.env) :: starEach es X.env := by rfl) (hplain : (backTo cpos (starEach es X.env)).any (·.1) = false := by rfl) :
    PD X H0 (.Call (.Attribute o "pop" apos) (e :: es) [] cpos) (dBM "list" rPopD to tr) := pd_bm PySem.F.plainAttrs_list PySem.F.slot_list_pop PySem.F.type_list_pop mt_popAt sim_pop ho ha hbase hfew hline hs hplain
def rInsD : DRM
  | .ref a, [.int i, y], L, Q => ∃ xs, L a = some (.lst xs) ∧ xs.length < sizeLine ∧ 0 ≤ i ∧ i < 2 ^ 63 ∧ Q .non (lupd L a (.lst (xs.take i.toNat ++ [y] ++ xs.drop i.toNat)))
  | _, _, _, _ => False
theorem pd_insert {o : Expr} {to : DE} {apos cpos : Pos} (ho : PD X H0 o to) (ha : PDA X H0 (e :: es) tr) (hbase : attributeBase o "insert" X.env (eval o X.env) = eval o X.env := by rfl)
    (hfew : ((backTo cpos (starEach (e :: es) X.env)).all (fun x => !x.1) && (backToKw cpos (keywordEach [] X.env)).all (fun x => x.1.isSome)
      && decide ((e :: es).length + ([] : List Keyword).length + (if ([] : List Keyword).isEmpty then 0 else 1) < 30)) = true := by rfl)
    (hline : (apos.endLine == cpos.line) = true := by rfl) (hs : starEach (e :: es) X.env = (false, eval e X.env) :: starEach es X.env := by rfl) (hplain : (backTo cpos (starEach es X.env)).any (·.1) = false := by rfl) :
    PD X H0 (.Call (.Attribute o "insert" apos) (e :: es) [] cpos) (dBM "list" rInsD to tr) := by
  refine pd_bm PySem.F.plainAttrs_list PySem.F.slot_list_insert PySem.F.type_list_insert mt_insert ?_ ho ha hbase hfew hline hs hplain
  intro x xs H d ds L Q' Q rx r hL h k
  unfold rInsD at h
  split at h
  · obtain ⟨v, u, rfl, rv, ru⟩ := r.two
    obtain ⟨ys, hl, hz, h0, h1, q⟩ := h
    cases rx.ref_inv; cases rv.int_inv
    obtain ⟨vs, hv, r2⟩ := hL.lst hl
    exact ⟨_, vs, _, u, rfl, rfl, hv, by rw [r2.length]; exact hz, h0, h1, k _ _ _ _ (tk_lst hv) (hL.putL (tk_lst hv) (((r2.take _).append (.cons ru .nil)).append (r2.drop _))) .non q⟩
  · exact h.elim
def rFindD : DRM
  | .str a, [.str b], L, Q => Q (.int (Txt.find a b)) L
  | _, _, _, _ => False
theorem pd_find {o : Expr} {to : DE} {apos cpos : Pos} (ho : PD X H0 o to) (ha : PDA X H0 (e :: es) tr) (hbase : attributeBase o "find" X.env (eval o X.env) = eval o X.env := by rfl)
    (hfew : ((backTo cpos (starEach (e :: es) X.env)).all (fun x => !x.1) && (backToKw cpos (keywordEach [] X.env)).all (fun x => x.1.isSome)
      && decide ((e :: es).length + ([] : List Keyword).length + (if ([] : List Keyword).isEmpty then 0 else 1) < 30)) = true := by rfl)
    (hline : (apos.endLine == cpos.line) = true := by rfl) (hs : starEach (e :: es) X.env = (false, eval e X.env) :: starEach es X.env := by rfl) (hplain : (backTo cpos (starEach es X.env)).any (·.1) = false := by rfl) :
    PD X H0 (.Call (.Attribute o "find" apos) (e :: es) [] cpos) (dBM "str" rFindD to tr) := by
  refine pd_bm PySem.F.plainAttrs_str PySem.F.slot_str_find PySem.F.type_str_find mt_find ?_ ho ha hbase hfew hline hs hplain
  intro x xs H d ds L Q' Q rx r hL h k
  unfold rFindD at h
  split at h
  · obtain ⟨v, rfl, rv⟩ := r.one
    cases rx.str_inv; cases rv.str_inv
    exact ⟨_, _, rfl, rfl, k _ _ _ _ .refl hL (.int _) h⟩
  · exact h.elim
/-- one sign in a text -/
def rInSD : DR2
  | .str c, .str z, L, Q => ∃ n, c = ⟨#[n]⟩ ∧ Q (.bl (decide (n ∈ z.cps.toList))) L
  | _, _, _, _ => False
theorem sim_inS : Sim2 X.K (fun x y H Q => ∃ (c : Nat) (z : Str), x = .str ⟨#[c]⟩ ∧ y = .str z ∧ Q (.bl (decide (c ∈ z.cps.toList))) H) rInSD := by
  intro x y H d e L Q' Q rx ry hL h k
  unfold rInSD at h
  split at h
  · obtain ⟨n, e, h⟩ := h
    subst e
    cases rx.str_inv; cases ry.str_inv
    exact ⟨_, _, rfl, rfl, k _ H _ L .refl hL (.bl _) h⟩
  · exact h.elim
theorem pd_inS (ha : PD X H0 a ta) (hb : PD X H0 b tb) (hm : behindInMarks .In b = false := by rfl) : PD X H0 (.Compare a [.In] [b] pos) (dOp rInSD ta tb) := pd_cmp op_in_sign sim_inS ha hb hm
def rIsND (neg : Bool) : DR2
  | d, .non, L, Q => (match d with | .non => Q (.bl (xor neg true)) L | .ref _ => Q (.bl (xor neg false)) L | .tup _ => Q (.bl (xor neg false)) L | .int _ => Q (.bl (xor neg false)) L | .str _ => Q (.bl (xor neg false)) L | .bl _ => Q (.bl (xor neg false)) L | .ty _ => Q (.bl (xor neg false)) L | .fls _ => Q (.bl (xor neg false)) L)
  | _, _, _, _ => False
theorem sim_isN : Sim2 X.K (fun x y H Q => y = .non ∧ Q (.bl (decide (x = .non))) H) (rIsND false) := by
  intro x y H d e L Q' Q rx ry hL h k
  unfold rIsND at h
  split at h
  · cases ry.non_inv
    refine ⟨rfl, ?_⟩
    cases rx <;> exact k _ H _ L .refl hL (.bl _) h
  · exact h.elim
theorem sim_notN : Sim2 X.K (fun x y H Q => y = .non ∧ Q (.bl (!decide (x = .non))) H) (rIsND true) := by
  intro x y H d e L Q' Q rx ry hL h k
  unfold rIsND at h
  split at h
  · cases ry.non_inv
    refine ⟨rfl, ?_⟩
    cases rx <;> exact k _ H _ L .refl hL (.bl _) h
  · exact h.elim
theorem pdt_isN (ha : PD X H0 a ta) (hb : PD X H0 b tb) : PDT X H0 (.Compare a [.Is] [b] pos) (dB (dOp (rIsND false) ta tb)) := pdt_cmp op_isN sim_isN ha hb
theorem pd_isN (ha : PD X H0 a ta) (hb : PD X H0 b tb) : PD X H0 (.Compare a [.Is] [b] pos) (dOp (rIsND false) ta tb) := pd_cmp op_isN sim_isN ha hb
theorem pdt_notN (ha : PD X H0 a ta) (hb : PD X H0 b tb) : PDT X H0 (.Compare a [.IsNot] [b] pos) (dB (dOp (rIsND true) ta tb)) := pdt_cmp op_notN sim_notN ha hb

/-! ### f-strings -/
def dFmt (te : DE) : DE := fun τ L Q => te τ L fun x L1 => (∃ y : Str, x = .str y ∧ y.length ≤ sizeLine ∧ Q (.str y) L1) ∨ ∃ i : Int, x = .int i ∧ i.natAbs.log2 < 1920 ∧ Q (.str (toString i)) L1
theorem pd_fmt {pos : Pos} (he : PD X H0 e te) : PD X H0 (.FormattedValue e (-1) none pos) (dFmt te) := PE.imp (pe_fmt he) fun σ H Q ⟨τ, L, Q', I, q, k⟩ => ⟨τ, L, _, I, q, fun v H1 d L1 t1 h1 r1 q1 => by
  rcases q1 with ⟨y, ed, hz, q1⟩ | ⟨i, ed, hz, q1⟩
  · subst ed
    exact .inl ⟨y, r1.str_inv, hz, k _ H1 _ L1 t1 h1 (.str _) q1⟩
  · subst ed
    exact .inr ⟨i, r1.int_inv, hz, k _ H1 _ L1 t1 h1 (.str _) q1⟩⟩
def dJs : List DE → Str → DSt → LHp → (Str → LHp → Prop) → Prop
  | [], acc, _, L, Q => Q acc L
  | t :: ts, acc, τ, L, Q => t τ L fun x L1 => ∃ y : Str, x = .str y ∧ (acc ++ y).length ≤ sizeLine ∧ dJs ts (acc ++ y) τ L1 Q
def PDJ (X : Cx) (H0 : Hp) (es : List Expr) (ts : List DE) : Prop := PJ X es (ts.map (lE X.K H0))
theorem pdj_nil : PDJ X H0 [] [] := .nil
theorem pdj_cons {ts : List DE} (h : PD X H0 e te) (r : PDJ X H0 es ts) : PDJ X H0 (e :: es) (te :: ts) := .cons h r
def lift_js {K : PySem.W.Frag} {H0 : Hp} : ∀ (ts : List DE) (acc : Str) (τ : DSt) (L : LHp) (Q' : Str → LHp → Prop) (σ : L2.St) (H : Hp) (Q : Str → Hp → Prop), Ins K H0 σ H τ L → dJs ts acc τ L Q' → (∀ out H' L', TK K H H' → HRp K L' H' → Q' out L' → Q out H') → tJs (ts.map (lE K H0)) acc σ H Q
  | [], acc, τ, L, Q', σ, H, Q, I, q, k => k acc H L .refl I.hp q
  | t :: ts, acc, τ, L, Q', σ, H, Q, I, q, k => ⟨τ, L, _, I, q, fun v H1 d L1 t1 h1 r1 ⟨y, ed, hz, q1⟩ => by
    subst ed
    exact ⟨y, r1.str_inv, hz, lift_js ts (acc ++ y) τ L1 Q' σ H1 Q (I.to t1 h1) q1 fun out H2 L2 t2 h2 q2 => k out H2 L2 (t1.trans t2) h2 q2⟩⟩
theorem pd_joined {v1 v2 : Expr} {rest : List Expr} {ts : List DE} {pos : Pos} (h : PDJ X H0 (v1 :: v2 :: rest) ts) : PD X H0 (.JoinedStr (v1 :: v2 :: rest) pos) (fun τ L Q => dJs ts Str.empty τ L fun out L1 => Q (.str out) L1) :=
  PE.imp (pe_joined h) fun σ H Q ⟨τ, L, Q', I, q, k⟩ => lift_js ts Str.empty τ L _ σ H _ I q fun out H' L' t' h' q' => k _ H' _ L' t' h' (.str out) q'
end

/-! ### calls of defs -/
abbrev XD := Value → Option Addr → LHp → Prop
abbrev DSp := List D → LHp → DK → XD → Prop
def spL (K : PySem.W.Frag) (sp : DSp) : Sp := fun vs H Q E => ∃ ds L Q' E', RpL K H vs ds ∧ HRp K L H ∧ sp ds L Q' E' ∧ (∀ v H' d L', TK K H H' → HRp K L' H' → Rp K H' v d → Q' d L' → Q v H') ∧ (∀ c a H' L', TK K H H' → HRp K L' H' → E' c a L' → E c a H')
abbrev ED0 : XD := fun _ _ _ => False
/-- what a def wants of exceptions, told over plain data -/
def XRel (K : PySem.W.Frag) (H0 : Hp) (E' : XD) (E : XK) : Prop := ∀ c a H' L', TK K H0 H' → HRp K L' H' → E' c a L' → E c a H'
theorem xrel0 {K : PySem.W.Frag} {H0 : Hp} {E : XK} : XRel K H0 ED0 E := fun _ _ _ _ _ _ z => z.elim
def dCall (sp : DSp) (E' : XD) (t : DA) : DE := fun τ L Q => t τ L fun ds L1 => sp ds L1 Q E'
section
variable {X : Cx} {H0 : Hp} {a b c e : Expr} {es rest : List Expr} {pos p2 : Pos} {ta tb tc te : DE} {tr : DA}
theorem pe_callR {CX : CXT} {k : Nat} {f : Addr} {sp : Sp} {E : XK} {x : Str} {p : Pos} {t : TA} (F : FnR X.prog X.w X.K X.mg X.base CX k f sp) (hr : Room k X.A) (hg : Gl X x) (hm : X.mg x = some (.ref f)) (hk : PySem.W.keepIn X.K (.ref f) = true) (hx : Passes CX X E)
    (ha : PA X (e :: es) t) (hdb : (x == ("__debug__" : Str)) = false := by decide) (he : starEach (e :: es) X.env = (false, eval e X.env) :: starEach es X.env := by rfl) (hpl : (backTo pos (starEach es X.env)).any (·.1) = false := by rfl) :
    PE X (.Call (.Name x p) (e :: es) [] pos) (fun σ H Q => t σ H fun vs H1 => sp vs H1 Q E) := by
  refine ⟨fun pins s σ H Q I h => ?_⟩
  refine wpAny_Call_Name_kw (ld_glob I hg hm ?_ hdb)
  refine PySem.W.callWith_K (h₀ := X.base) I.ok.mod.kin hk (thn (ha.run pos pins s σ H _ I h) fun us s1 ⟨vs, H1, I1, r, q⟩ => ⟨I1.kIn, ?_⟩) he hpl
  exact wpAny_call (run_fnR F hr hx I1 r q)
theorem pe_callR0 {CX : CXT} {k : Nat} {f : Addr} {sp : Sp} {E : XK} {x : Str} {p : Pos} (F : FnR X.prog X.w X.K X.mg X.base CX k f sp) (hr : Room k X.A) (hg : Gl X x) (hm : X.mg x = some (.ref f)) (hk : PySem.W.keepIn X.K (.ref f) = true) (hx : Passes CX X E)
    (hdb : (x == ("__debug__" : Str)) = false := by decide) : PE X (.Call (.Name x p) [] [] pos) (fun σ H Q => sp [] H Q E) := by
  refine ⟨fun pins s σ H Q I h => ?_⟩
  refine wpAny_Call_Name_kw (ld_glob I hg hm ?_ hdb)
  exact PySem.W.callWith_K0 I.kIn hk (wpAny_call (run_fnR F hr hx I .nil h))
theorem l_call {sp : DSp} {E' : XD} {E : XK} (hE : XRel X.K H0 E' E) : ∀ σ H Q, lE X.K H0 (dCall sp E' tr) σ H Q → lA X.K H0 tr σ H fun vs H1 => spL X.K sp vs H1 Q E := fun σ H Q ⟨τ, L, Q', I, q, k⟩ =>
  ⟨τ, L, _, I, q, fun vs H1 ds L1 t1 h1 r1 q1 => ⟨ds, L1, Q', E', r1, h1, q1, fun v H2 d L2 t2 h2 r2 q2 => k v H2 d L2 (t1.trans t2) h2 r2 q2, fun c a H2 L2 t2 h2 z => hE c a H2 L2 (I.tk.trans (t1.trans t2)) h2 z⟩⟩
theorem pd_call {CX : CXT} {k : Nat} {f : Addr} {sp : DSp} {E : XK} {E' : XD} {x : Str} {p : Pos} (F : FnR X.prog X.w X.K X.mg X.base CX k f (spL X.K sp)) (hr : Room k X.A) (hk : PySem.W.keepIn X.K (.ref f) = true) (hm : X.mg x = some (.ref f)) (hx : Passes CX X E) (hE : XRel X.K H0 E' E)
    (ha : PDA X H0 (e :: es) tr) (hg : Gl X x := by rfl) (hdb : (x == ("__debug__" : Str)) = false := by decide) (he : starEach (e :: es) X.env = (false, eval e X.env) :: starEach es X.env := by rfl) (hpl : (backTo pos (starEach es X.env)).any (·.1) = false := by rfl) :
    PD X H0 (.Call (.Name x p) (e :: es) [] pos) (dCall sp E' tr) := PE.imp (pe_callR F hr hg hm hk hx ha hdb he hpl) (l_call hE)
theorem pd_call0 {CX : CXT} {k : Nat} {f : Addr} {sp : DSp} {E : XK} {E' : XD} {x : Str} {p : Pos} (F : FnR X.prog X.w X.K X.mg X.base CX k f (spL X.K sp)) (hr : Room k X.A) (hk : PySem.W.keepIn X.K (.ref f) = true) (hm : X.mg x = some (.ref f)) (hx : Passes CX X E) (hE : XRel X.K H0 E' E)
    (hg : Gl X x := by rfl) (hdb : (x == ("__debug__" : Str)) = false := by decide) : PD X H0 (.Call (.Name x p) [] [] pos) (dCall sp E' dNil) := PE.imp (pe_callR0 F hr hg hm hk hx hdb) fun σ H Q ⟨τ, L, Q', I, q, k⟩ =>
      ⟨[], L, Q', E', .nil, I.hp, q, fun v H2 d L2 t2 h2 r2 q2 => k v H2 d L2 t2 h2 r2 q2, fun c a H2 L2 t2 h2 z => hE c a H2 L2 (I.tk.trans t2) h2 z⟩

/-! ### targets, statements -/
abbrev DG := D → DSt → LHp → (DSt → LHp → Prop) → Prop
abbrev DGs := List D → DSt → LHp → (DSt → LHp → Prop) → Prop
def lG (K : PySem.W.Frag) (H0 : Hp) (g : DG) : TG := fun v σ H Q => ∃ d τ L Q', Ins K H0 σ H τ L ∧ Rp K H v d ∧ g d τ L Q' ∧ ∀ σ' H' τ' L', Ins K H0 σ' H' τ' L' → Q' τ' L' → Q σ' H'
def lGs (K : PySem.W.Frag) (H0 : Hp) (g : DGs) : TGs := fun vs σ H Q => ∃ ds τ L Q', Ins K H0 σ H τ L ∧ RpL K H vs ds ∧ g ds τ L Q' ∧ ∀ σ' H' τ' L', TK K H H' → Ins K H0 σ' H' τ' L' → Q' τ' L' → Q σ' H'
/-- a target that keeps what stood -/
def lGt (K : PySem.W.Frag) (H0 : Hp) (g : DG) : TG := fun v σ H Q => ∃ d τ L Q', Ins K H0 σ H τ L ∧ Rp K H v d ∧ g d τ L Q' ∧ ∀ σ' H' τ' L', TK K H H' → Ins K H0 σ' H' τ' L' → Q' τ' L' → Q σ' H'
def PDG (X : Cx) (H0 : Hp) (e : Expr) (g : DG) : Prop := PG X e (lGt X.K H0 g)
def PDGs (X : Cx) (H0 : Hp) (es : List Expr) (g : DGs) : Prop := PGs X es (lGs X.K H0 g)
theorem PG.imp {t t' : TG} (h : PG X e t) (w : ∀ v σ H Q, t' v σ H Q → t v σ H Q) : PG X e t' := ⟨fun pins s σ H v u Q I r q => h.run pins s σ H v u Q I r (w v σ H Q q)⟩
theorem PGs.imp {t t' : TGs} (h : PGs X es t) (w : ∀ v σ H Q, t' v σ H Q → t v σ H Q) : PGs X es t' := ⟨fun pins s σ H v u Q I r q => h.run pins s σ H v u Q I r (w v σ H Q q)⟩
def dgName (i : Nat) : DG := fun d τ L Q => Q (τ.set i (some d)) L
theorem pdg_name {i : Nat} {x : Str} {pos : Pos} (hN : X.N.Nodup) (hi : X.N[i]? = some x := by rfl) (hx : Loc X.env.scope x := by first | exact Or.inl rfl | exact Or.inr rfl) (hf : X.fn x = true ∨ X.env.scope.names.lookup x = some .local := by first | exact .inl rfl | exact .inr rfl | assumption) : PDG X H0 (.Name x pos) (dgName i) :=
  PG.imp (pg_name hN hi hx hf) fun v σ H Q ⟨d, τ, L, Q', I, r, q, k⟩ => k _ H _ L .refl (I.set r i) q
def dgNil : DGs := fun ds τ L Q => ds = [] ∧ Q τ L
def dgCons (g : DG) (gs : DGs) : DGs := fun ds τ L Q => ∃ d r, ds = d :: r ∧ g d τ L fun τ' L' => gs r τ' L' Q
theorem pdgs_nil : PDGs X H0 [] dgNil := PGs.imp pgs_nil fun v σ H Q ⟨ds, τ, L, Q', I, r, ⟨e, q⟩, k⟩ => by
  subst e
  cases r
  exact ⟨rfl, k σ H τ L .refl I q⟩
theorem pdgs_cons {g : DG} {gs : DGs} (h1 : PDG X H0 e g) (h2 : PDGs X H0 es gs) (hs : (assignEach (e :: es) X.env).map (·.2) = assign e X.env :: (assignEach es X.env).map (·.2) := by rfl) : PDGs X H0 (e :: es) (dgCons g gs) :=
  PGs.imp (pgs_cons h1 h2 hs) fun v σ H Q ⟨ds, τ, L, Q', I, r, ⟨d, dr, ed, q⟩, k⟩ => by
    subst ed
    cases r with
    | cons r1 r2 => exact ⟨_, _, rfl, d, τ, L, _, I, r1, q, fun σ1 H1 τ1 L1 t1 I1 q1 => ⟨dr, τ1, L1, Q', I1, r2.mono t1, q1, fun σ2 H2 τ2 L2 t2 I2 q2 => k σ2 H2 τ2 L2 (t1.trans t2) I2 q2⟩⟩
def dgTup (n : Nat) (g : DGs) : DG := fun d τ L Q => ∃ ds, d = .tup ds ∧ ds.length = n ∧ g ds τ L Q
theorem pdg_tup {k n : Nat} {g : DGs} {pos : Pos} (hc : X.calm = true) (h : PDGs X H0 es g) (hn : (assignEach es X.env).length = n := by rfl) (hst : (assignEach es X.env).findIdx? (·.1) = none := by rfl) : PDG X H0 (.Tuple es k pos) (dgTup n g) :=
  PG.imp (pg_tup hc h hn hst) fun v σ H Q ⟨d, τ, L, Q', I, r, ⟨ds, ed, hl, q⟩, k⟩ => by
    subst ed
    cases r with
    | tup s r2 => exact ⟨_, _, rfl, s, by rw [r2.length]; exact hl, ds, τ, L, Q', I, r2, q, k⟩
/-- xs[i] = v -/
def dgSub (to ti : DE) : DG := fun d τ L Q => to τ L fun o L1 => ti τ L1 fun i L2 => ∃ p xs k j, o = .ref p ∧ i = .int k ∧ L2 p = some (.lst xs) ∧ ixN xs.length k = some j ∧ Q τ (lupd L2 p (.lst (xs.set j d)))
theorem pdg_sub {o i : Expr} {to ti : DE} {pos : Pos} (ho : PD X H0 o to) (hi : PD X H0 i ti) (ha : ∀ v, assign (.Subscript o i pos) X.env v = (do
      let ov ← holding [v] (eval o X.env)
      let iv ← holding [v, ov] (eval i X.env)
      standAt pos
      holding [v, ov, iv] (setItem ov iv v)
      release [v, ov, iv] []) := by intro _; rfl) : PDG X H0 (.Subscript o i pos) (dgSub to ti) :=
  PG.imp (pg_sub ho hi set_list ha) fun v σ H Q ⟨d, τ, L, Q', I, r, q, k⟩ => ⟨τ, L, _, I, q, fun ov H1 od L1 t1 h1 r1 q1 => ⟨τ, L1, _, I.to t1 h1, q1, fun iv H2 id L2 t2 h2 r2 ⟨p, xs, n, j, e1, e2, hl, hj, q2⟩ => by
    subst e1 e2
    cases (r1.mono t2).ref_inv; cases r2.int_inv
    obtain ⟨vs, hv, rr⟩ := h2.lst hl
    have t12 := t1.trans t2
    have t3 := tk_lst (K := X.K) (o := .lst (vs.set j v)) hv
    exact ⟨_, vs, _, j, rfl, rfl, hv, by rw [rr.length]; exact hj, k σ _ τ _ (t12.trans t3) ((I.to t12 h2).to t3 (h2.putL t3 (rr.set (r.mono t12) j))) q2⟩⟩⟩

def dNext : DS := fun D τ L => D.nx τ L
def dSeq (t u : DS) : DS := fun D τ L => t { D with nx := u D } τ L
variable {st : Stmt} {sts : List Stmt} {t u : DS}
theorem pdss_nil : PDSs X H0 [] dNext := PSs.imp pss_nil fun D σ H ⟨τ, L, D', I, q, k, _⟩ => k σ H τ L .refl I q
theorem pdss_one (h : PDS X H0 st t) : PDSs X H0 [st] t := pss_one h
theorem pdss_cons (h1 : PDS X H0 st t) (h2 : PDSs X H0 sts u) : PDSs X H0 (st :: sts) (dSeq t u) := PSs.imp (pss_cons h1 h2) fun D σ H ⟨τ, L, D', I, q, k1, k2, k3, k4⟩ =>
  ⟨τ, L, _, I, q, fun σ1 H1 τ1 L1 t1 I1 q1 => ⟨τ1, L1, D', I1, q1, fun σ2 H2 τ2 L2 t2 => k1 σ2 H2 τ2 L2 (t1.trans t2), k2, fun σ2 H2 τ2 L2 t2 => k3 σ2 H2 τ2 L2 (t1.trans t2), fun σ2 H2 τ2 L2 t2 => k4 σ2 H2 τ2 L2 (t1.trans t2)⟩, k2, k3, k4⟩
theorem pds_pass {pos : Pos} : PDS X H0 (.Pass pos) dNext := PS.imp ps_pass fun D σ H ⟨τ, L, D', I, q, k, _⟩ => k σ H τ L .refl I q
def dBreak : DS := fun D τ L => D.bk τ L
def dCont : DS := fun D τ L => D.ct τ L
theorem pds_break {pos : Pos} : PDS X H0 (.Break pos) dBreak := PS.imp ps_break fun D σ H ⟨τ, L, D', I, q, _, _, k, _⟩ => k σ H τ L .refl I q
theorem pds_continue {pos : Pos} : PDS X H0 (.Continue pos) dCont := PS.imp ps_continue fun D σ H ⟨τ, L, D', I, q, _, _, _, k⟩ => k σ H τ L .refl I q
def dNever : DS := fun _ _ _ => False
theorem pds_never : PDS X H0 st dNever := PS.imp ps_never fun D σ H ⟨τ, L, D', I, q, k⟩ => q
theorem pdss_never {sts : List Stmt} : PDSs X H0 sts dNever := PSs.imp pss_never fun D σ H ⟨τ, L, D', I, q, k⟩ => q
def dDrop (te : DE) : DS := fun D τ L => te τ L fun _ L1 => D.nx τ L1
theorem pds_expr {pos : Pos} (he : PD X H0 e te) (hs : swapsWith e none pos.line X.env = pure false := by rfl) : PDS X H0 (.Expr e pos) (dDrop te) := PS.imp (ps_expr he hs) fun D σ H ⟨τ, L, D', I, q, k1, k2, k3, k4⟩ => ⟨τ, L, _, I, q, fun v H1 d L1 t1 h1 r1 q1 => k1 σ H1 τ L1 t1 (I.to t1 h1) q1⟩
def dRet (te : DE) : DS := fun D τ L => te τ L D.rt
theorem pds_ret {pos : Pos} (he : PD X H0 e te) : PDS X H0 (.Return (some e) pos) (dRet te) := PS.imp (ps_ret he) fun D σ H ⟨τ, L, D', I, q, k1, k2, k3, k4⟩ => ⟨τ, L, _, I, q, fun v H1 d L1 t1 h1 r1 q1 => k2 v H1 d L1 (I.tk.trans t1) h1 r1 q1⟩
def dRetN : DS := fun D _ L => D.rt .non L
theorem pds_retN {pos : Pos} : PDS X H0 (.Return none pos) dRetN := PS.imp ps_retN fun D σ H ⟨τ, L, D', I, q, k1, k2, k3, k4⟩ => k2 _ H _ L I.tk I.hp .non q
def dAsg (te : DE) (g : DG) : DS := fun D τ L => te τ L fun x L1 => g x τ L1 D.nx
theorem pds_asg {tg e : Expr} {g : DG} {pos : Pos} (he : PD X H0 e te) (hg : PDG X H0 tg g) (hs : swapsWithSole [tg] e pos.line X.env = pure false := by rfl) (hw : swappedStores [tg] e X.env = pure none := by rfl)
    (h1 : (assignEach [tg] X.env).map (·.2) = [assign tg X.env] := by rfl) : PDS X H0 (.Assign [tg] e pos) (dAsg te g) := PS.imp (ps_asg he hg hs hw h1) fun D σ H ⟨τ, L, D', I, q, k1, k2, k3, k4⟩ =>
      ⟨τ, L, _, I, q, fun v H1 d L1 t1 h1 r1 q1 => ⟨d, τ, L1, _, I.to t1 h1, r1, q1, fun σ2 H2 τ2 L2 t2 I2 q2 => k1 σ2 H2 τ2 L2 (t1.trans t2) I2 q2⟩⟩
def dSet (i : Nat) (te : DE) : DS := fun D τ L => te τ L fun x L1 => D.nx (τ.set i (some x)) L1
theorem pds_set {i : Nat} {x : Str} {e : Expr} {pos pos' : Pos} (hN : X.N.Nodup) (he : PD X H0 e te) (hi : X.N[i]? = some x := by rfl) (hx : Loc X.env.scope x := by first | exact Or.inl rfl | exact Or.inr rfl) (hs : swapsWith e (some (.Name x pos')) pos.line X.env = pure false := by rfl) (hf : X.fn x = true ∨ X.env.scope.names.lookup x = some .local := by first | exact .inl rfl | exact .inr rfl | assumption) :
    PDS X H0 (.Assign [.Name x pos'] e pos) (dSet i te) := PS.imp (ps_set hN hi hx he hs hf) fun D σ H ⟨τ, L, D', I, q, k1, k2, k3, k4⟩ =>
      ⟨τ, L, _, I, q, fun v H1 d L1 t1 h1 r1 q1 => k1 _ H1 _ L1 t1 ((I.to t1 h1).set r1 i) q1⟩
def dPar (i j : Nat) (ta : DA) : DS := fun D τ L => ta τ L fun ds L1 => ∃ v w, ds = [v, w] ∧ D.nx ((τ.set i (some v)).set j (some w)) L1
theorem pds_par {i j : Nat} {x y : Str} {a b : Expr} {ta : DA} {pos px py pt : Pos} {kt k2 pt2} (hc : X.calm = true) (hN : X.N.Nodup) (ha : PDA X H0 [a, b] ta) (hi : X.N[i]? = some x := by rfl) (hj : X.N[j]? = some y := by rfl) (hij : i ≠ j := by decide)
    (hx : X.env.scope.names.lookup x = some .local := by rfl) (hy : X.env.scope.names.lookup y = some .local := by rfl)
    (hw : swappedStores [.Tuple [.Name x px, .Name y py] kt pt] (.Tuple [a, b] k2 pt2) X.env = pure (some [x, y]) := by rfl)
    (hs : swapsWithSole [.Tuple [.Name x px, .Name y py] kt pt] (.Tuple [a, b] k2 pt2) pos.line X.env = pure false := by rfl) :
    PDS X H0 (.Assign [.Tuple [.Name x px, .Name y py] kt pt] (.Tuple [a, b] k2 pt2) pos) (dPar i j ta) := PS.imp (ps_par hc hN hi hj hij hx hy ha hw hs) fun D σ H ⟨τ, L, D', I, q, k1, k2, k3, k4⟩ =>
      ⟨τ, L, _, I, q, fun vs H1 ds L1 t1 h1 r1 ⟨v, w, ed, q1⟩ => by
        subst ed
        obtain ⟨x, y, rfl, rx, ry⟩ := r1.two
        exact ⟨x, y, rfl, k1 _ H1 _ L1 t1 (((I.to t1 h1).set rx i).set ry j) q1⟩⟩
def dIfS (c : DT) (t u : DS) : DS := fun D τ L => c τ L fun b L1 => if b = true then t D τ L1 else u D τ L1
theorem pds_if {c : Expr} {a b : List Stmt} {tc : DT} {pos : Pos} (hc : PDT X H0 c tc) (ha : PDSs X H0 a t) (hb : PDSs X H0 b u) : PDS X H0 (.If c a b pos) (dIfS tc t u) := PS.imp (ps_if hc ha hb) fun D σ H ⟨τ, L, D', I, q, k1, k2, k3, k4⟩ =>
  ⟨τ, L, _, I, q, fun v H1 L1 t1 h1 q1 => by
    have w1 := fun σ2 H2 τ2 L2 t2 => k1 σ2 H2 τ2 L2 (t1.trans t2)
    have w3 := fun σ2 H2 τ2 L2 t2 => k3 σ2 H2 τ2 L2 (t1.trans t2)
    have w4 := fun σ2 H2 τ2 L2 t2 => k4 σ2 H2 τ2 L2 (t1.trans t2)
    cases v with
    | true =>
      refine iteT ?_
      simp only [if_true] at q1
      exact ⟨τ, L1, D', I.to t1 h1, q1, w1, k2, w3, w4⟩
    | false =>
      refine iteF ?_
      simp only [if_false, Bool.false_eq_true] at q1
      exact ⟨τ, L1, D', I.to t1 h1, q1, w1, k2, w3, w4⟩⟩
def dWhile (c : DT) (tb : DS) : DS := fun D τ L => ∃ W : Nat → DSt → LHp → Prop, (∃ m, W m τ L) ∧ ∀ m τ L, W m τ L →
  c τ L fun b L1 => if b = true then ∃ N : DSt → LHp → Prop, (∀ τ' L', N τ' L' → ∃ m', m' < m ∧ W m' τ' L') ∧ tb { D with nx := N, ct := N, bk := D.nx } τ L1 else D.nx τ L1
theorem pds_while {c : Expr} {body : List Stmt} {tc : DT} {pos : Pos} (hp : PassesOwn (model X.prog X.w) X.A X.env X.xe) (hc : PDT X H0 c tc) (hb : PDSs X H0 body t) : PDS X H0 (.While c body [] pos) (dWhile tc t) := PS.imp (ps_while hp hc hb) fun D σ H ⟨τ, L, D', I, ⟨W, ⟨m, w0⟩, turn⟩, k1, k2, k3, k4⟩ =>
  ⟨fun m σ H' => ∃ τ L, TK X.K H H' ∧ Ins X.K H0 σ H' τ L ∧ W m τ L, ⟨m, τ, L, .refl, I, w0⟩, fun m σ1 H1 ⟨τ1, L1, t1, I1, w1⟩ => ⟨τ1, L1, _, I1, turn m τ1 L1 w1, fun b H2 L2 t2 h2 q2 => by
    have t12 := t1.trans t2
    cases b with
    | true =>
      refine iteT ?_
      simp only [if_true] at q2
      obtain ⟨N, hN, q2⟩ := q2
      exact ⟨fun σ H' => ∃ τ L, TK X.K H H' ∧ Ins X.K H0 σ H' τ L ∧ N τ L, fun σ3 H3 ⟨τ3, L3, t3, I3, n3⟩ => (let ⟨m', hm, w3⟩ := hN τ3 L3 n3; ⟨m', hm, τ3, L3, t3, I3, w3⟩), τ1, L2, _, I1.to t2 h2, q2, fun σ3 H3 τ3 L3 t3 I3 n3 => ⟨τ3, L3, t12.trans t3, I3, n3⟩, k2, fun σ3 H3 τ3 L3 t3 I3 n3 => k1 σ3 H3 τ3 L3 (t12.trans t3) I3 n3, fun σ3 H3 τ3 L3 t3 I3 n3 => ⟨τ3, L3, t12.trans t3, I3, n3⟩⟩
    | false =>
      refine iteF ?_
      simp only [if_false, Bool.false_eq_true] at q2
      exact k1 σ1 H2 τ1 L2 t12 (I1.to t2 h2) q2⟩⟩

/-! ### for -/
def dForL (tl : DE) (g : DG) (tb : DS) : DS := fun D τ L => tl τ L fun x L1 => ∃ a ds, x = .ref a ∧ LRd L1 a ds ∧ ∃ Pv : Nat → DSt → LHp → Prop, Pv 0 τ L1 ∧ (∀ i τ' L', i ≤ ds.length → Pv i τ' L' → LRd L' a ds) ∧
  (∀ i d τ' L', ds[i]? = some d → Pv i τ' L' → g d τ' L' fun τ2 L2 => tb { D with nx := Pv (i + 1), ct := Pv (i + 1), bk := D.nx } τ2 L2) ∧ (∀ τ' L', Pv ds.length τ' L' → D.nx τ' L')
def dForT (tl : DE) (g : DG) (tb : DS) : DS := fun D τ L => tl τ L fun x L1 => ∃ ds, x = .tup ds ∧ ∃ Pv : Nat → DSt → LHp → Prop, Pv 0 τ L1 ∧
  (∀ i d τ' L', ds[i]? = some d → Pv i τ' L' → g d τ' L' fun τ2 L2 => tb { D with nx := Pv (i + 1), ct := Pv (i + 1), bk := D.nx } τ2 L2) ∧ (∀ τ' L', Pv ds.length τ' L' → D.nx τ' L')
def dForR (ta : DA) (g : DG) (tb : DS) : DS := fun D τ L => ta τ L fun ds L1 => ∃ j : Int, ds = [.int j] ∧ (-(2 ^ 62) ≤ j ∧ j < 2 ^ 62) ∧ ∃ Pv : Nat → DSt → LHp → Prop, Pv 0 τ L1 ∧
  (∀ (i : Nat) τ' L', i < j.toNat → Pv i τ' L' → g (.int (i : Int)) τ' L' fun τ2 L2 => tb { D with nx := Pv (i + 1), ct := Pv (i + 1), bk := D.nx } τ2 L2) ∧ (∀ τ' L', Pv j.toNat τ' L' → D.nx τ' L')
section
variable {iter tg : Expr} {body : List Stmt} {g : DG} {pos : Pos} {tb : DS}
theorem pds_forL (hp : PassesOwn (model X.prog X.w) X.A X.env X.xe) (hc : X.calm = true) (hi : PD X H0 iter te) (hg : PDG X H0 tg g) (hb : PDSs X H0 body tb) (hs : ∀ x, foldedSetIterable iter X.env x = pure x := by intro _; rfl) : PDS X H0 (.For tg iter body [] pos) (dForL te g tb) :=
  PS.imp (ps_for hp hc (pi_list hi) hg hb hs) fun D σ H ⟨τ, L, D', I, q, k1, k2, k3, k4⟩ => ⟨τ, L, _, I, q, fun v H1 d L1 t1 h1 r1 ⟨a, ds, ed, hl, Pv, p0, pl, ps, pe⟩ => by
    subst ed
    cases r1.ref_inv
    obtain ⟨xs, s, rr⟩ := h1.rd hl
    refine ⟨a, rfl, ⟨xs, s⟩, fun i m σ H' => m = ds.length - i ∧ i ≤ ds.length ∧ ∃ τ L, TK X.K H H' ∧ Ins X.K H0 σ H' τ L ∧ Pv i τ L, ⟨ds.length, by simp, Nat.zero_le _, τ, L1, t1, I.to t1 h1, p0⟩, ?_⟩
    rintro i m σ2 H2 ⟨rfl, hi, τ2, L2, t2, I2, p2⟩
    obtain ⟨ys, s2, rr2⟩ := I2.hp.rd (pl i τ2 L2 hi p2)
    by_cases hlt : i < ds.length
    · have hly : i < ys.length := by rw [rr2.length]; exact hlt
      refine .inr ⟨⟨ys, ys[i], s2, by simp [hly]⟩, fun σ H' => ∃ τ L, TK X.K H H' ∧ Ins X.K H0 σ H' τ L ∧ Pv (i + 1) τ L, fun σ' H' p' => ⟨ds.length - (i + 1), by omega, rfl, hlt, p'⟩, fun x H' y => ?_⟩
      obtain ⟨e, y⟩ := y
      subst e
      obtain ⟨d, hd, rd⟩ := rr2.get' (y ys s2)
      exact ⟨d, τ2, L2, _, I2, rd, ps i d τ2 L2 hd p2, fun σ3 H3 τ3 L3 t3 I3 q3 => ⟨τ3, L3, _, I3, q3, fun σ4 H4 τ4 L4 t4 I4 n4 => ⟨τ4, L4, t2.trans (t3.trans t4), I4, n4⟩, k2, fun σ4 H4 τ4 L4 t4 I4 n4 => k1 σ4 H4 τ4 L4 (t2.trans (t3.trans t4)) I4 n4, fun σ4 H4 τ4 L4 t4 I4 n4 => ⟨τ4, L4, t2.trans (t3.trans t4), I4, n4⟩⟩⟩
    · have e : i = ds.length := by omega
      subst e
      exact .inl ⟨⟨ys, s2, by rw [rr2.length]; exact Nat.le_refl _⟩, k1 σ2 H2 τ2 L2 t2 I2 (pe τ2 L2 p2)⟩⟩
theorem pds_forT (hp : PassesOwn (model X.prog X.w) X.A X.env X.xe) (hc : X.calm = true) (hi : PD X H0 iter te) (hg : PDG X H0 tg g) (hb : PDSs X H0 body tb) (hs : ∀ x, foldedSetIterable iter X.env x = pure x := by intro _; rfl) : PDS X H0 (.For tg iter body [] pos) (dForT te g tb) :=
  PS.imp (ps_for hp hc (pi_tup hi) hg hb hs) fun D σ H ⟨τ, L, D', I, q, k1, k2, k3, k4⟩ => ⟨τ, L, _, I, q, fun v H1 d L1 t1 h1 r1 ⟨ds, ed, Pv, p0, ps, pe⟩ => by
    subst ed
    cases r1 with
    | @tup a xs _ s rr =>
      refine ⟨a, rfl, ⟨xs, s⟩, for_tup (xs := xs) (fun i σ H' => ∃ τ L, TK X.K H1 H' ∧ Ins X.K H0 σ H' τ L ∧ Pv i τ L) ⟨τ, L1, .refl, I.to t1 h1, p0⟩ (fun i σ H' _ ⟨_, _, t, _, _⟩ => t.t _ _ s) (fun i x σ2 H2 hx ⟨τ2, L2, t2, I2, p2⟩ => ?_) fun σ2 H2 ⟨τ2, L2, t2, I2, p2⟩ => k1 σ2 H2 τ2 L2 (t1.trans t2) I2 (pe τ2 L2 (by rw [← rr.length]; exact p2))⟩
      obtain ⟨d, hd, rd⟩ := (rr.mono t2).get' hx
      exact ⟨d, τ2, L2, _, I2, rd, ps i d τ2 L2 hd p2, fun σ3 H3 τ3 L3 t3 I3 q3 => ⟨τ3, L3, _, I3, q3, fun σ4 H4 τ4 L4 t4 I4 n4 => ⟨τ4, L4, t2.trans (t3.trans t4), I4, n4⟩, k2, fun σ4 H4 τ4 L4 t4 I4 n4 => k1 σ4 H4 τ4 L4 (t1.trans (t2.trans (t3.trans t4))) I4 n4, fun σ4 H4 τ4 L4 t4 I4 n4 => ⟨τ4, L4, t2.trans (t3.trans t4), I4, n4⟩⟩⟩⟩
theorem pds_forR {a : Expr} {ta : DA} {p pos' : Pos} (hp : PassesOwn (model X.prog X.w) X.A X.env X.xe) (hc : X.calm = true) (hm : X.mg "range" = none) (hi : PDA X H0 [a] ta) (hgt : PDG X H0 tg g) (hb : PDSs X H0 body tb) (hg : Gl X "range" := by rfl) (hs : starEach [a] X.env = [(false, eval a X.env)] := by rfl)
    (hf : ∀ x, foldedSetIterable (.Call (.Name "range" p) [a] [] pos') X.env x = pure x := by intro _; rfl) : PDS X H0 (.For tg (.Call (.Name "range" p) [a] [] pos') body [] pos) (dForR ta g tb) :=
  PS.imp (ps_for hp hc (pi_range1 hg hm hi hs) hgt hb hf) fun D σ H ⟨τ, L, D', I, q, k1, k2, k3, k4⟩ => ⟨τ, L, _, I, q, fun vs H1 ds L1 t1 h1 r1 ⟨j, ed, ⟨h0, h2⟩, Pv, p0, ps, pe⟩ => by
    subst ed
    obtain ⟨v, rfl, rv⟩ := r1.one
    cases rv.int_inv
    refine ⟨j, rfl, h0, h2, for_range (lo := 0) (n := j.toNat) (fun i σ H' => ∃ τ L, TK X.K H1 H' ∧ Ins X.K H0 σ H' τ L ∧ Pv i τ L) ⟨τ, L1, .refl, I.to t1 h1, p0⟩ (fun i σ2 H2 hx ⟨τ2, L2, t2, I2, p2⟩ => ?_) fun σ2 H2 ⟨τ2, L2, t2, I2, p2⟩ => k1 σ2 H2 τ2 L2 (t1.trans t2) I2 (pe τ2 L2 p2)⟩
    have e0 : (0 : Int) + (i : Int) = (i : Int) := Int.zero_add _
    rw [e0]
    exact ⟨_, τ2, L2, _, I2, .int _, ps i τ2 L2 hx p2, fun σ3 H3 τ3 L3 t3 I3 q3 => ⟨τ3, L3, _, I3, q3, fun σ4 H4 τ4 L4 t4 I4 n4 => ⟨τ4, L4, t2.trans (t3.trans t4), I4, n4⟩, k2, fun σ4 H4 τ4 L4 t4 I4 n4 => k1 σ4 H4 τ4 L4 (t1.trans (t2.trans (t3.trans t4))) I4 n4, fun σ4 H4 τ4 L4 t4 I4 n4 => ⟨τ4, L4, t2.trans (t3.trans t4), I4, n4⟩⟩⟩⟩
end

/-! ### list comprehensions of one clause, the target a name -/
def dTYes : DT := fun _ L Q => Q true L
def PDTs (X : Cx) (H0 : Hp) (ifs : List Expr) (t : DT) : Prop := PTs X ifs (lT X.K H0 t)
theorem pdts_nil : PDTs X H0 [] dTYes := ⟨fun pins s σ H Q I ⟨τ, L, Q', J, q, k⟩ => pts_nil.run pins s σ H Q I (k true H L .refl J.hp q)⟩
theorem pdts_one {c : Expr} {t : DT} (h : PDT X H0 c t) : PDTs X H0 [c] t := pts_one h
/-- one turn behind the target -/
def lcTurn (tt : DT) (te : DE) (E : Addr) (τ : DSt) (L : LHp) (N : LHp → Prop) : Prop := tt τ L fun b L2 => if b = true then te τ L2 fun y L3 => ∃ acc, L3 E = some (.lst acc) ∧ acc.length < sizeLine ∧ N (lupd L3 E (.lst (acc ++ [y]))) else N L2
def dLcL (j : Nat) (tl : DE) (tt : DT) (te : DE) : DE := fun τ L Q => tl τ L fun x L1 => ∃ a ds, x = .ref a ∧ LRd L1 a ds ∧ ∀ E, L1 E = none → ∃ Pv : Nat → LHp → Prop, Pv 0 (lupd L1 E (.lst [])) ∧ (∀ i L', i ≤ ds.length → Pv i L' → LRd L' a ds) ∧
  (∀ i d L', ds[i]? = some d → Pv i L' → lcTurn tt te E (τ.set j (some d)) L' (Pv (i + 1))) ∧ (∀ L', Pv ds.length L' → Q (.ref E) L')
def dLcR (j : Nat) (ta : DA) (tt : DT) (te : DE) : DE := fun τ L Q => ta τ L fun ds L1 => ∃ n : Int, ds = [.int n] ∧ (-(2 ^ 62) ≤ n ∧ n < 2 ^ 62) ∧ ∀ E, L1 E = none → ∃ Pv : Nat → LHp → Prop, Pv 0 (lupd L1 E (.lst [])) ∧
  (∀ (i : Nat) L', i < n.toNat → Pv i L' → lcTurn tt te E (τ.set j (some (.int (i : Int)))) L' (Pv (i + 1))) ∧ (∀ L', Pv n.toNat L' → Q (.ref E) L')
def dLcS (j : Nat) (tl : DE) (tt : DT) (te : DE) : DE := fun τ L Q => tl τ L fun x L1 => ∃ z : Str, x = .str z ∧ ∀ E, L1 E = none → ∃ Pv : Nat → LHp → Prop, Pv 0 (lupd L1 E (.lst [])) ∧
  (∀ (i : Nat) c L', z.cps[i]? = some c → Pv i L' → lcTurn tt te E (τ.set j (some (.str ⟨#[c]⟩))) L' (Pv (i + 1))) ∧ (∀ L', Pv z.cps.size L' → Q (.ref E) L')
theorem wipe_set {σ : L2.St} {j : Nat} {x : V} : wipe ((wipe σ [j]).set j (some x)) [j] = wipe σ [j] := by
  show ((σ.set j none).set j (some x)).set j none = σ.set j none
  rw [List.set_set, List.set_set]
theorem ins_wipe {σ : L2.St} {H : Hp} {τ : DSt} {L : LHp} {j : Nat} {v : V} {d : D} (I : Ins X.K H0 σ H τ L) (r : Rp X.K H v d) : Ins X.K H0 ((wipe σ [j]).set j (some v)) H (τ.set j (some d)) L := by
  have e : (wipe σ [j]).set j (some v) = σ.set j (some v) := by
    show (σ.set j none).set j (some v) = σ.set j (some v)
    rw [List.set_set]
  rw [e]
  exact I.set r j
/-- the common end of a turn -/
theorem lc_turn {tt : DT} {te : DE} {E : Addr} {σ2 : L2.St} {H2 : Hp} {τ2 : DSt} {L2 : LHp} {N : LHp → Prop} {Nx : Hp → Prop} (I : Ins X.K H0 σ2 H2 τ2 L2) (q : lcTurn tt te E τ2 L2 N) (k : ∀ H' L', TK X.K H2 H' → HRp X.K L' H' → N L' → Nx H') :
    lT X.K H0 tt σ2 H2 fun b H3 => if b = true then lE X.K H0 te σ2 H3 fun y H4 => ∃ acc, H4 E = some (.lst acc) ∧ acc.length < sizeLine ∧ Nx (upd H4 E (.lst (acc ++ [y]))) else Nx H3 := by
  refine ⟨τ2, L2, _, I, q, fun b H3 L3 t3 h3 q3 => ?_⟩
  cases b with
  | true =>
    rw [if_pos rfl]
    simp only [if_true] at q3
    refine ⟨τ2, L3, _, I.to t3 h3, q3, fun v H4 d L4 t4 h4 r4 ⟨acc, ha, hz, n⟩ => ?_⟩
    obtain ⟨xs, hx, rx⟩ := h4.lst ha
    have t5 := tk_lst (K := X.K) (o := .lst (xs ++ [v])) hx
    exact ⟨xs, hx, by rw [rx.length]; exact hz, k _ _ (t3.trans (t4.trans t5)) (h4.putL t5 (rx.append (.cons r4 .nil))) n⟩
  | false =>
    rw [if_neg Bool.false_ne_true]
    simp only [if_false, Bool.false_eq_true] at q3
    exact k _ _ t3 h3 q3
section
variable {elt iter : Expr} {ifs : List Expr} {scope : Scope} {j : Nat} {x : Str} {px pos : Pos} {tt : DT}
theorem l_lcL : ∀ σ H Q, lE X.K H0 (dLcL j te tt ta) σ H Q → tLc (iList X.K (lE X.K H0 te)) (gName j) (lT X.K H0 tt) (lE X.K H0 ta) [j] σ H Q := fun σ H Q ⟨τ, L, Q', I, q, k⟩ => ⟨τ, L, _, I, q, fun v H1 d L1 t1 h1 r1 ⟨a, ds, ed, hl, q1⟩ => by
  subst ed
  cases r1.ref_inv
  obtain ⟨xs, s, rr⟩ := h1.rd hl
  refine ⟨a, rfl, ⟨xs, s⟩, fun E hE => ?_⟩
  obtain ⟨Pv, p0, pl, ps, pe⟩ := q1 E (h1.none hE)
  have tE := tk_new (K := X.K) (o := .lst []) hE
  have hE' := h1.putL tE (ds := []) .nil
  refine ⟨fun i m H' => m = ds.length - i ∧ i ≤ ds.length ∧ ∃ L, TK X.K H H' ∧ HRp X.K L H' ∧ Pv i L, ⟨ds.length, by simp, Nat.zero_le _, _, t1.trans tE, hE', p0⟩, ?_⟩
  rintro i m H2 ⟨rfl, hi, L2, t2, h2, p2⟩
  obtain ⟨ys, s2, rr2⟩ := h2.rd (pl i L2 hi p2)
  by_cases hlt : i < ds.length
  · have hly : i < ys.length := by rw [rr2.length]; exact hlt
    refine .inr ⟨⟨ys, ys[i], s2, by simp [hly]⟩, fun H' => ∃ L, TK X.K H H' ∧ HRp X.K L H' ∧ Pv (i + 1) L, fun H' p' => ⟨ds.length - (i + 1), by omega, rfl, hlt, p'⟩, fun y H' yl => ?_⟩
    obtain ⟨e, yl⟩ := yl
    subst e
    obtain ⟨d, hd, rd⟩ := rr2.get' (yl ys s2)
    exact ⟨wipe_set, lc_turn (ins_wipe (I.to t2 h2) rd) (ps i d L2 hd p2) fun H' L' t' h' n' => ⟨L', t2.trans t', h', n'⟩⟩
  · have e : i = ds.length := by omega
    subst e
    exact .inl ⟨⟨ys, s2, by rw [rr2.length]; exact Nat.le_refl _⟩, k _ H2 _ L2 t2 h2 (.ref E) (pe L2 p2)⟩⟩
theorem l_lcR : ∀ σ H Q, lE X.K H0 (dLcR j tr tt ta) σ H Q → tLc (iRng1 (lA X.K H0 tr)) (gName j) (lT X.K H0 tt) (lE X.K H0 ta) [j] σ H Q := fun σ H Q ⟨τ, L, Q', I, q, k⟩ => ⟨τ, L, _, I, q, fun vs H1 ds L1 t1 h1 r1 ⟨n, ed, ⟨n0, n1⟩, q1⟩ => by
  subst ed
  obtain ⟨v, rfl, rv⟩ := r1.one
  cases rv.int_inv
  refine ⟨n, rfl, n0, n1, fun E hE => ?_⟩
  obtain ⟨Pv, p0, ps, pe⟩ := q1 E (h1.none hE)
  have tE := tk_new (K := X.K) (o := .lst []) hE
  have hE' := h1.putL tE (ds := []) .nil
  refine lc_range (lo := 0) (n := n.toNat) (fun i H' => ∃ L, TK X.K H H' ∧ HRp X.K L H' ∧ Pv i L) ⟨_, t1.trans tE, hE', p0⟩ (fun i H2 hi ⟨L2, t2, h2, p2⟩ => ?_) fun H2 ⟨L2, t2, h2, p2⟩ => k _ H2 _ L2 t2 h2 (.ref E) (pe L2 p2)
  have e0 : (0 : Int) + (i : Int) = (i : Int) := Int.zero_add _
  rw [e0]
  exact ⟨wipe_set, lc_turn (ins_wipe (I.to t2 h2) (.int _)) (ps i L2 hi p2) fun H' L' t' h' n' => ⟨L', t2.trans t', h', n'⟩⟩⟩
theorem l_lcS : ∀ σ H Q, lE X.K H0 (dLcS j te tt ta) σ H Q → tLc (iStr (lE X.K H0 te)) (gName j) (lT X.K H0 tt) (lE X.K H0 ta) [j] σ H Q := fun σ H Q ⟨τ, L, Q', I, q, k⟩ => ⟨τ, L, _, I, q, fun v H1 d L1 t1 h1 r1 ⟨z, ed, q1⟩ => by
  subst ed
  cases r1.str_inv
  refine ⟨z, rfl, fun E hE => ?_⟩
  obtain ⟨Pv, p0, ps, pe⟩ := q1 E (h1.none hE)
  have tE := tk_new (K := X.K) (o := .lst []) hE
  have hE' := h1.putL tE (ds := []) .nil
  refine ⟨fun i m H' => m = z.cps.size - i ∧ i ≤ z.cps.size ∧ ∃ L, TK X.K H H' ∧ HRp X.K L H' ∧ Pv i L, ⟨z.cps.size, by simp, Nat.zero_le _, _, t1.trans tE, hE', p0⟩, ?_⟩
  rintro i m H2 ⟨rfl, hi, L2, t2, h2, p2⟩
  by_cases hlt : i < z.cps.size
  · refine .inr ⟨hlt, fun H' => ∃ L, TK X.K H H' ∧ HRp X.K L H' ∧ Pv (i + 1) L, fun H' p' => ⟨z.cps.size - (i + 1), by omega, rfl, hlt, p'⟩, fun y H' yl => ?_⟩
    obtain ⟨e, c, hc, ey⟩ := yl
    subst e ey
    exact ⟨wipe_set, lc_turn (ins_wipe (I.to t2 h2) (.str _)) (ps i c L2 hc p2) fun H' L' t' h' n' => ⟨L', t2.trans t', h', n'⟩⟩
  · have e : i = z.cps.size := by omega
    subst e
    exact .inl ⟨Nat.le_refl _, k _ H2 _ L2 t2 h2 (.ref E) (pe L2 p2)⟩⟩
abbrev Blk (X : Cx) (scope : Scope) (s : Shared) (H : Hp) (C : Addr) (cl : List (Str × Addr)) (fp : List Addr) : Cx := X.blk s H scope (compEnvC scope cl C X.env) fp
theorem pd_lcL (hc : X.calm = true) (hN : X.N.Nodup) (hi : PD X H0 iter te) (ok : blkC X.N X.env.scope scope [(x, j)] = true)
    (ht : ∀ (s : Shared) (H : Hp) (C : Addr) (cl : List (Str × Addr)) (fp : List Addr), PDTs (Blk X scope s H C cl fp) H0 ifs tt) (he : ∀ (s : Shared) (H : Hp) (C : Addr) (cl : List (Str × Addr)) (fp : List Addr), PD (Blk X scope s H C cl fp) H0 elt ta)
    (hg : ∀ (s : Shared) (H : Hp) (C : Addr) (cl : List (Str × Addr)) (fp : List Addr), PG (Blk X scope s H C cl fp) (.Name x px) (gName j) := by exact fun _ _ _ _ _ => pg_name (by assumption) rfl (by first | exact .inl rfl | exact .inr rfl))
    (hs : ∀ x, foldedSetIterable iter X.env x = pure x := by intro _; rfl) : PD X H0 (.ListComp elt [⟨.Name x px, iter, ifs, 0⟩] scope pos) (dLcL j te tt ta) :=
  PE.imp (pe_lc (tt := lT X.K H0 tt) (te := lE X.K H0 ta) hc hN (pi_list hi) (blkOk_by ok) hg ht he hs) l_lcL
theorem pd_lcS (hc : X.calm = true) (hN : X.N.Nodup) (hi : PD X H0 iter te) (ok : blkC X.N X.env.scope scope [(x, j)] = true)
    (ht : ∀ (s : Shared) (H : Hp) (C : Addr) (cl : List (Str × Addr)) (fp : List Addr), PDTs (Blk X scope s H C cl fp) H0 ifs tt) (he : ∀ (s : Shared) (H : Hp) (C : Addr) (cl : List (Str × Addr)) (fp : List Addr), PD (Blk X scope s H C cl fp) H0 elt ta)
    (hg : ∀ (s : Shared) (H : Hp) (C : Addr) (cl : List (Str × Addr)) (fp : List Addr), PG (Blk X scope s H C cl fp) (.Name x px) (gName j) := by exact fun _ _ _ _ _ => pg_name (by assumption) rfl (by first | exact .inl rfl | exact .inr rfl))
    (hs : ∀ x, foldedSetIterable iter X.env x = pure x := by intro _; rfl) : PD X H0 (.ListComp elt [⟨.Name x px, iter, ifs, 0⟩] scope pos) (dLcS j te tt ta) :=
  PE.imp (pe_lc (tt := lT X.K H0 tt) (te := lE X.K H0 ta) hc hN (pi_str hi) (blkOk_by ok) hg ht he hs) l_lcS
theorem pd_lcR {n : Expr} {p pos' : Pos} (hc : X.calm = true) (hN : X.N.Nodup) (hm : X.mg "range" = none) (hi : PDA X H0 [n] tr) (ok : blkC X.N X.env.scope scope [(x, j)] = true)
    (ht : ∀ (s : Shared) (H : Hp) (C : Addr) (cl : List (Str × Addr)) (fp : List Addr), PDTs (Blk X scope s H C cl fp) H0 ifs tt) (he : ∀ (s : Shared) (H : Hp) (C : Addr) (cl : List (Str × Addr)) (fp : List Addr), PD (Blk X scope s H C cl fp) H0 elt ta)
    (hg : ∀ (s : Shared) (H : Hp) (C : Addr) (cl : List (Str × Addr)) (fp : List Addr), PG (Blk X scope s H C cl fp) (.Name x px) (gName j) := by exact fun _ _ _ _ _ => pg_name (by assumption) rfl (by first | exact .inl rfl | exact .inr rfl))
    (hgr : Gl X "range" := by rfl) (hs1 : starEach [n] X.env = [(false, eval n X.env)] := by rfl) (hs : ∀ x, foldedSetIterable (.Call (.Name "range" p) [n] [] pos') X.env x = pure x := by intro _; rfl) : PD X H0 (.ListComp elt [⟨.Name x px, (.Call (.Name "range" p) [n] [] pos'), ifs, 0⟩] scope pos) (dLcR j tr tt ta) :=
  PE.imp (pe_lc (tt := lT X.K H0 tt) (te := lE X.K H0 ta) hc hN (pi_range1 hgr hm hi hs1) (blkOk_by ok) hg ht he hs) l_lcR
/-- name = [..] -/
theorem pds_setLcR {i : Nat} {y : Str} {py spos : Pos} {n : Expr} {p pos' : Pos} (hc : X.calm = true) (hN : X.N.Nodup) (hm : X.mg "range" = none) (hi : PDA X H0 [n] tr) (ok : blkC X.N X.env.scope scope [(x, j)] = true)
    (ht : ∀ (s : Shared) (H : Hp) (C : Addr) (cl : List (Str × Addr)) (fp : List Addr), PDTs (Blk X scope s H C cl fp) H0 ifs tt) (he : ∀ (s : Shared) (H : Hp) (C : Addr) (cl : List (Str × Addr)) (fp : List Addr), PD (Blk X scope s H C cl fp) H0 elt ta)
    (hsw : swapsWith (.ListComp elt [⟨.Name x px, (.Call (.Name "range" p) [n] [] pos'), ifs, 0⟩] scope pos) (some (.Name y py)) spos.line X.env = pure true)
    (hy : X.N[i]? = some y := by rfl) (hyl : X.env.scope.names.lookup y = some .local := by rfl)
    (hg : ∀ (s : Shared) (H : Hp) (C : Addr) (cl : List (Str × Addr)) (fp : List Addr), PG (Blk X scope s H C cl fp) (.Name x px) (gName j) := by exact fun _ _ _ _ _ => pg_name (by assumption) rfl (by first | exact .inl rfl | exact .inr rfl))
    (hgr : Gl X "range" := by rfl) (hs1 : starEach [n] X.env = [(false, eval n X.env)] := by rfl) (hs : ∀ x, foldedSetIterable (.Call (.Name "range" p) [n] [] pos') X.env x = pure x := by intro _; rfl) : PDS X H0 (.Assign [.Name y py] (.ListComp elt [⟨.Name x px, (.Call (.Name "range" p) [n] [] pos'), ifs, 0⟩] scope pos) spos) (dSet i (dLcR j tr tt ta)) :=
  PS.imp (ps_setLc (tt := lT X.K H0 tt) (te := lE X.K H0 ta) hc hN hy hyl hsw (pi_range1 hgr hm hi hs1) (blkOk_by ok) hg ht he hs) fun D σ H ⟨τ, L, D', I, q, k1, k2, k3, k4⟩ => l_lcR σ H _ ⟨τ, L, _, I, q, fun v H1 d L1 t1 h1 r1 q1 => k1 _ H1 _ L1 t1 ((I.to t1 h1).set r1 i) q1⟩
end
end

/-! ### a def keeps its promise -/
def dstart (N : List Str) (ds : List D) : DSt := ds.map some ++ List.replicate (N.length - ds.length) none
theorem rps_start {K : PySem.W.Frag} {H : Hp} {N : List Str} {vs : List V} {ds : List D} (r : RpL K H vs ds) : RpS K H (L2.start N vs) (dstart N ds) := by
  have hl := r.length
  refine ⟨?_, fun i d h => ?_⟩
  · unfold L2.start dstart
    rw [List.length_append, List.length_append, List.length_map, List.length_map, List.length_replicate, List.length_replicate, hl]
  · unfold dstart at h
    unfold L2.start
    by_cases hi : i < ds.length
    · rw [List.getElem?_append_left (by simpa using hi), List.getElem?_map] at h
      cases e : ds[i]? with
      | none => rw [e] at h; cases h
      | some a =>
        rw [e] at h
        cases h
        obtain ⟨v, hv, rv⟩ := r.get e
        refine ⟨v, ?_, rv⟩
        rw [List.getElem?_append_left (by simp; omega), List.getElem?_map, hv]
        rfl
    · rw [List.getElem?_append_right (by simpa using hi), List.getElem?_replicate] at h
      split at h <;> cases h
section
variable {P : Program} {w : World} {K : PySem.W.Frag} {mg : Str → Option Value} {base : Heap} {x qual : Str} {params : Arguments} {body : List Stmt} {scope : Scope} {f : Addr} {fd : FuncData} {N ps : List Str} {k : Nat} {sp : DSp}
abbrev FnL (P : Program) (w : World) (K : PySem.W.Frag) (mg : Str → Option Value) (base : Heap) (CX : CXT) (k : Nat) (f : Addr) (sp : DSp) : Prop := FnR P w K mg base CX k f (spL K sp)
theorem FnL.mono {CX : CXT} {j k : Nat} (F : FnL P w K mg base CX j f sp) (h : j ≤ k) : FnL P w K mg base CX k f sp := FnR.mono F h
/-- a def without defaults that lets no exception out -/
theorem fnOk_mk (F : FunD K x qual params body scope [] [] f fd)
    (S : FnScope N ps scope) (len : ∀ ds L Q E, sp ds L Q E → ds.length = ps.length)
    (hbody : ∀ (cdv : Value) (A : Around) (outer : List Env) (s : Shared) (H : Hp) (E : XK) (ds : List D) (L : LHp) (Q : DK) (E' : XD), Room k (A.deeper (envOfC qual scope s.heap.objs.size f cdv)) → sp ds L Q E' →
      ∃ t, PDSs (cxOf CX0 P w K mg base N qual scope f cdv A outer s H E).nox H body t ∧ t { nx := fun _ L' => Q .non L', rt := Q } (dstart N ds) L) : FnOk P w K mg base CX0 (k + 1) f fd ps (spL K sp) := by
  refine F.ok S (fun vs H Q E ⟨ds, L, Q', E', r, h, s, _⟩ => by rw [r.length]; exact len _ _ _ _ s) fun cdv A outer s H vs Q E hr ⟨ds, L, Q', E', r, h, q, k1, k2⟩ => ?_
  obtain ⟨t, ht, hq⟩ := hbody cdv A outer s H E ds L Q' E' hr q
  exact ⟨_, (PSs.nox ht : PSs (cxOf CX0 P w K mg base N qual scope f cdv A outer s H E) body (lS K H t)), dstart N ds, L, _, ⟨.refl, rps_start r, h⟩, hq, fun σ' H' τ' L' t' I' n' => k1 _ H' _ L' t' I'.hp .non n', fun v H' d L' t' h' r' q' => k1 v H' d L' t' h' r' q', fun σ' H' τ' L' t' I' n' => n'.elim, fun σ' H' τ' L' t' I' n' => n'.elim⟩
theorem fnL_mk (F : FunD K x qual params body scope [] [] f fd) (hb : ∀ (kV doc pm : Value) (an : Option Addr) (cdv ct : Value) (us : List Value), us.length = ps.length → bindArgs (PySem.W.fnOf x qual params body scope .none kV doc pm an cdv ct) ⟨us, []⟩ = pure (ps.zip us))
    (S : FnScope N ps scope) (len : ∀ ds L Q E, sp ds L Q E → ds.length = ps.length)
    (hbody : ∀ (cdv : Value) (A : Around) (outer : List Env) (s : Shared) (H : Hp) (E : XK) (ds : List D) (L : LHp) (Q : DK) (E' : XD), Room k (A.deeper (envOfC qual scope s.heap.objs.size f cdv)) → sp ds L Q E' →
      ∃ t, PDSs (cxOf CX0 P w K mg base N qual scope f cdv A outer s H E).nox H body t ∧ t { nx := fun _ L' => Q .non L', rt := Q } (dstart N ds) L) : FnL P w K mg base CX0 (k + 1) f sp :=
  ((fnOk_mk F S len hbody).raw (FunD.bindsN F hb) .nil).imp fun vs H Q E h => by rw [List.append_nil]; exact h
/-- the heap that a law sees: the script alone -/
theorem law_start {H : Hp} {a : Addr} {ns : List Int} {sp : DSp} (hS : SqL K H a (ns.map V.int)) (hO : Only H)
    (h : sp [.fls (ns.map D.int)] (fun _ => none) (fun d _ => d = .bl true) fun _ _ _ => False) : spL K sp [.ref a] H (fun v _ => v = .bl true) fun _ _ _ => False := by
  have rp : RpL K H (ns.map V.int) (ns.map D.int) := by
    clear hS h
    induction ns with
    | nil => exact .nil
    | cons n ns ih => exact .cons (.int n) ih
  have hF : SqF K H a (ns.map V.int) := by
    refine ⟨hS, ?_⟩
    rcases hS with (q | q) | ⟨o, its, n, lk, r⟩
    · rcases hO a with z | ⟨o, xs, z⟩ <;> rw [z] at q <;> cases q
    · exact .inl q
    · exact .inr ⟨o, lk, fun H' => .inr ⟨o, its, n, lk, r⟩⟩
  refine ⟨[.fls (ns.map D.int)], fun _ => none, fun d _ => d = .bl true, fun _ _ _ => False, .cons (.fls hF rp) .nil, (fun b o e => by cases e), h, (fun v H' d L' _ _ r q => ?_), fun _ _ _ _ _ _ z => z⟩
  subst q
  exact r.bl_inv
/-- def f( *xs) -/
def spStar (sp : DSp) : DSp := fun ds L Q E => ds.length ≤ sizeLine ∧ sp [.tup ds] L Q E
theorem fnL_star {pv : Str} (F : FunD K x qual params body scope [] [] f fd) (S : FnScope N [pv] scope)
    (hb : ∀ (kV doc pm : Value) (an : Option Addr) (cdv ct : Value) (rest : List Value), bindArgs (PySem.W.fnOf x qual params body scope .none kV doc pm an cdv ct) ⟨rest, []⟩ = (newTuple rest >>= fun t => pure [(pv, t)]))
    (hbody : ∀ (cdv : Value) (A : Around) (outer : List Env) (s : Shared) (H : Hp) (E : XK) (ds : List D) (L : LHp) (Q : DK) (E' : XD), Room k (A.deeper (envOfC qual scope s.heap.objs.size f cdv)) → sp ds L Q E' →
      ∃ t, PDSs (cxOf CX0 P w K mg base N qual scope f cdv A outer s H E).nox H body t ∧ t { nx := fun _ L' => Q .non L', rt := Q } (dstart N ds) L) : FnL P w K mg base CX0 (k + 1) f (spStar sp) := by
  obtain ⟨oc, od, dV, kV, doc, pm, an, cdv, ct, osl, rfl, lk, hcd, hd, _⟩ := F.ex
  have ed : dV = .none := by
    rcases hd with ⟨_, e⟩ | ⟨z, _⟩
    · exact e
    · exact absurd rfl z
  subst ed
  refine (StX.fn_star (ps := []) (pv := pv) (sp := spL K sp) lk hcd S StX.cxUp_none (fun us rest hl => ?_) fun A outer s H vs Q E hr ⟨ds, L, Q', E', r, h, q, k1, k2⟩ => ?_).imp fun vs H Q E ⟨ds, L, Q', E', r, h, ⟨hz, q⟩, k1, k2⟩ => ?_
  · have eu : us = [] := List.eq_nil_of_length_eq_zero hl
    subst eu
    exact hb kV doc pm an cdv ct rest
  · obtain ⟨t, ht, hq⟩ := hbody cdv A outer s H E ds L Q' E' hr q
    exact ⟨_, (PSs.nox ht : PSs (cxOf CX0 P w K mg base N qual scope f cdv A outer s H E) body (lS K H t)), dstart N ds, L, _, ⟨.refl, rps_start r, h⟩, hq, fun σ' H' τ' L' t' I' n' => k1 _ H' _ L' t' I'.hp .non n', fun v H' d L' t' h' r' q' => k1 v H' d L' t' h' r' q', fun σ' H' τ' L' t' I' n' => n'.elim, fun σ' H' τ' L' t' I' n' => n'.elim⟩
  · refine ⟨[], vs, rfl, rfl, by rw [r.length]; exact hz, fun p hp => ⟨[.tup ds], L, Q', E', .cons (.tup (.inl (.inl upd_same)) (r.mono (tk_new hp))) .nil, h.grow hp, q, fun v H' d L' t' => k1 v H' d L' ((tk_new hp).trans t'), fun c a H' L' t' => k2 c a H' L' ((tk_new hp).trans t')⟩⟩
end
end DV
namespace FR
open PySem PySem.Spec PyProof.Rows L2 DV
/-- a fraction, in lowest terms, as a tuple -/
def fr (q : Rat) : D := .tup [.int q.num, .int (q.den : Int)]
/-- a fraction as it may be passed: top and bottom below 2^B -/
inductive Raw (B : Nat) : D → Rat → Prop
  | int (n : Int) (hB : 0 < B) (h0 : 0 ≤ n) (h1 : n.natAbs < 2 ^ B) : Raw B (.int n) (n : Rat)
  | pair (t b : Int) (h0 : 0 ≤ t) (h1 : 0 < b) (h2 : t.natAbs < 2 ^ B) (h3 : b.natAbs < 2 ^ B) : Raw B (.tup [.int t, .int b]) ((t : Rat) / (b : Rat))
theorem ne0 {b : Int} (h : 0 < b) : (b : Rat) ≠ 0 := fun e => by
  have := Rat.intCast_eq_zero_iff.mp e
  omega
theorem low_num (t b : Int) (hb : 0 < b) : t / ((Nat.gcd t.natAbs b.natAbs : Nat) : Int) = ((t : Rat) / (b : Rat)).num := by
  rw [← Rat.divInt_eq_div, Rat.num_divInt, Int.sign_eq_one_of_pos hb, Int.one_mul]
  show _ = t / ((Nat.gcd b.natAbs t.natAbs : Nat) : Int)
  rw [Nat.gcd_comm]
theorem low_den (t b : Int) (hb : 0 < b) : b / ((Nat.gcd t.natAbs b.natAbs : Nat) : Int) = ((((t : Rat) / (b : Rat)).den : Nat) : Int) := by
  rw [← Rat.divInt_eq_div, Rat.den_divInt, if_neg (by omega)]
  show _ = ((b.natAbs / Nat.gcd b.natAbs t.natAbs : Nat) : Int)
  rw [Nat.gcd_comm, Int.natCast_ediv, Int.natAbs_of_nonneg (by omega)]
theorem gcd_pos (t b : Int) (hb : 0 < b) : 0 < ((Nat.gcd t.natAbs b.natAbs : Nat) : Int) := by
  have : 0 < Nat.gcd t.natAbs b.natAbs := Nat.gcd_pos_of_pos_right _ (by omega)
  omega
theorem gcd_le (t b : Int) (hb : 0 < b) : (Nat.gcd t.natAbs b.natAbs) ≤ b.natAbs := Nat.le_of_dvd (by omega) (Nat.gcd_dvd_right _ _)
theorem den_pos (q : Rat) : 0 < (q.den : Int) := by have := q.den_pos; omega
theorem div_self (q : Rat) : (q.num : Rat) / ((q.den : Nat) : Int) = q := by
  rw [← Rat.divInt_eq_div]
  exact Rat.num_divInt_den q
/-- below 2^B, not below 0 -/
structure Bd (B : Nat) (q : Rat) : Prop where
  nn : 0 ≤ q
  top : q.num.natAbs < 2 ^ B
  bot : q.den < 2 ^ B
theorem Bd.num0 {B : Nat} {q : Rat} (h : Bd B q) : 0 ≤ q.num := Rat.num_nonneg.mpr h.nn
theorem Bd.mono {B C : Nat} {q : Rat} (h : Bd B q) (le : B ≤ C) : Bd C q := ⟨h.nn, Nat.lt_of_lt_of_le h.top (Nat.pow_le_pow_right (by decide) le), Nat.lt_of_lt_of_le h.bot (Nat.pow_le_pow_right (by decide) le)⟩
theorem Bd.raw {B : Nat} {q : Rat} (h : Bd B q) : Raw B (fr q) q := by
  have := Raw.pair (B := B) q.num q.den h.num0 (den_pos q) h.top (by simpa using h.bot)
  rw [div_self] at this
  exact this
theorem bd_of (B : Nat) (t b : Int) (h0 : 0 ≤ t) (h1 : 0 < b) (h2 : t.natAbs < 2 ^ B) (h3 : b.natAbs < 2 ^ B) : Bd B ((t : Rat) / (b : Rat)) := by
  have hg := gcd_pos t b h1
  refine ⟨?_, ?_, ?_⟩
  · rw [← Rat.divInt_eq_div]
    exact Rat.divInt_nonneg h0 (by omega)
  · rw [← low_num t b h1]
    refine Nat.lt_of_le_of_lt ?_ h2
    exact Int.natAbs_ediv_le_natAbs _ _
  · have e := low_den t b h1
    have l := Int.natAbs_ediv_le_natAbs b ((Nat.gcd t.natAbs b.natAbs : Nat) : Int)
    rw [e] at l
    refine Nat.lt_of_le_of_lt ?_ h3
    simpa using l
theorem Raw.bd {B : Nat} {d : D} {q : Rat} (h : Raw B d q) : Bd B q := by
  cases h with
  | int n hB h0 h1 => exact ⟨Rat.intCast_nonneg.mpr h0, h1, Nat.one_lt_two_pow (by omega)⟩
  | pair t b h0 h1 h2 h3 => exact bd_of B t b h0 h1 h2 h3
theorem Raw.mono {B C : Nat} {d : D} {q : Rat} (h : Raw B d q) (le : B ≤ C) : Raw C d q := by
  have p : 2 ^ B ≤ 2 ^ C := Nat.pow_le_pow_right (by decide) le
  cases h with
  | int n hB h0 h1 => exact .int n (Nat.lt_of_lt_of_le hB le) h0 (Nat.lt_of_lt_of_le h1 p)
  | pair t b h0 h1 h2 h3 => exact .pair t b h0 h1 (Nat.lt_of_lt_of_le h2 p) (Nat.lt_of_lt_of_le h3 p)
theorem natAbs_den {q : Rat} : ((q.den : Nat) : Int).natAbs = q.den := by simp
theorem Bd.botI {B : Nat} {q : Rat} (h : Bd B q) : ((q.den : Nat) : Int).natAbs < 2 ^ B := by rw [natAbs_den]; exact h.bot
theorem t1 (p q : Rat) : ((p.num * (q.den : Int) + q.num * (p.den : Int) : Int) : Rat) / (((p.den : Int) * (q.den : Int) : Int) : Rat) = p + q := by
  have hp := ne0 (den_pos p)
  have hq := ne0 (den_pos q)
  have ep := div_self p
  have eq := div_self q
  rw [Rat.intCast_add, Rat.intCast_mul, Rat.intCast_mul, Rat.intCast_mul]
  conv => rhs; rw [← ep, ← eq]
  grind
inductive RawL (B : Nat) : List D → List Rat → Prop
  | nil : RawL B [] []
  | cons {d : D} {q : Rat} {ds : List D} {qs : List Rat} (h : Raw B d q) (t : RawL B ds qs) : RawL B (d :: ds) (q :: qs)
theorem RawL.length {B : Nat} : ∀ {ds : List D} {qs : List Rat}, RawL B ds qs → ds.length = qs.length
  | _, _, .nil => rfl
  | _, _, .cons _ t => by rw [List.length_cons, List.length_cons, RawL.length t]
theorem RawL.get {B : Nat} : ∀ {ds : List D} {qs : List Rat} {i : Nat} {d : D}, RawL B ds qs → ds[i]? = some d → ∃ q, qs[i]? = some q ∧ Raw B d q
  | _, _, _, _, .nil, e => by simp at e
  | _, _, 0, _, .cons r _, e => by simp at e; subst e; exact ⟨_, rfl, r⟩
  | _, _, i + 1, _, .cons _ t, e => by
    obtain ⟨u, h1, h2⟩ := RawL.get (i := i) t (by simpa using e)
    exact ⟨u, by simpa using h1, h2⟩
theorem RawL.snoc {B : Nat} {d : D} {q : Rat} (h : Raw B d q) : ∀ {ds : List D} {qs : List Rat}, RawL B ds qs → RawL B (ds ++ [d]) (qs ++ [q])
  | _, _, .nil => .cons h .nil
  | _, _, .cons r t => .cons r (RawL.snoc h t)
def rsum : List Rat → Rat
  | [] => 0
  | q :: qs => q + rsum qs
def rprod : List Rat → Rat
  | [] => 1
  | q :: qs => q * rprod qs
theorem rsum_snoc (q : Rat) : ∀ qs : List Rat, rsum (qs ++ [q]) = rsum qs + q
  | [] => by show q + 0 = 0 + q; rw [Rat.add_zero, Rat.zero_add]
  | p :: qs => by show p + rsum (qs ++ [q]) = p + rsum qs + q; rw [rsum_snoc q qs, Rat.add_assoc]
theorem rprod_snoc (q : Rat) : ∀ qs : List Rat, rprod (qs ++ [q]) = rprod qs * q
  | [] => by show q * 1 = 1 * q; rw [Rat.mul_one, Rat.one_mul]
  | p :: qs => by show p * rprod (qs ++ [q]) = p * rprod qs * q; rw [rprod_snoc q qs, Rat.mul_assoc]
theorem take_snoc {α : Type} {l : List α} {i : Nat} {x : α} (h : l[i]? = some x) : l.take (i + 1) = l.take i ++ [x] := by
  rw [List.take_add_one, h]; rfl
def rabs (x : Rat) : Rat := if x < 0 then -x else x
theorem kit_ii : kitB "int" "int" = some true := by decide +kernel
theorem kit_bi : kitB "bool" "int" = some true := by decide +kernel
theorem kit_ib : kitB "int" "bool" = some false := by decide +kernel
theorem kit_ti : kitB "tuple" "int" = some false := by decide +kernel
end FR
namespace K00
open PySem PySem.Spec PyProof.Rows L2 DV FR
/-! ### the promises -/
def Gr (L L' : LHp) : Prop := ∀ a o, L a = some o → L' a = some o
theorem Gr.refl {L : LHp} : Gr L L := fun _ _ h => h
theorem Gr.trans {L L1 L2 : LHp} (a : Gr L L1) (b : Gr L1 L2) : Gr L L2 := fun x o h => b x o (a x o h)
theorem Gr.new {L : LHp} {p : Addr} {o : LO} (h : L p = none) : Gr L (lupd L p o) := fun a u e => by rw [lupd_ne (fun z => by rw [z, h] at e; cases e)]; exact e
theorem at_gen {α : Type} {xs : List α} {z : Int} {j : Nat} {v : α} (e : z = (j : Int)) (h : xs[j]? = some v) : atI xs z = some v := by rw [e]; exact atI_nat h
def isI : D → Bool
  | .int _ => true
  | _ => false
def sp_is_number : DSp := fun ds L Q _ => ∃ (d : D) (t : String), ds = [d] ∧ tyD L d t ∧ Q (.bl (isI d)) L
def sp_is_fraction : DSp := fun ds L Q _ => ∃ (d : D) (B : Nat) (q : Rat), ds = [d] ∧ Raw B d q ∧ Q (.bl true) L
def sp__check : DSp := fun ds L Q _ => ∃ (vs : List D) (B : Nat) (qs : List Rat), ds = [.tup vs] ∧ RawL B vs qs ∧ Q .non L
def sp__reduced : DSp := fun ds L Q _ => ∃ (d : D) (q : Rat), ds = [d] ∧ Raw 8000 d q ∧ Q (fr q) L
def sp_lowest : DSp := sp__reduced
def spi_plus : DSp := fun ds L Q _ => ∃ (vs : List D) (B : Nat) (qs : List Rat), ds = [.tup vs] ∧ RawL B vs qs ∧ (B + 1) * vs.length + 1 ≤ 8000 ∧ Q (fr (rsum qs)) L
def sp_plus : DSp := spStar spi_plus
def spi_times : DSp := fun ds L Q _ => ∃ (vs : List D) (B : Nat) (qs : List Rat), ds = [.tup vs] ∧ RawL B vs qs ∧ (B + 1) * vs.length + 1 ≤ 8000 ∧ Q (fr (rprod qs)) L
def sp_times : DSp := spStar spi_times
def sp_quotient : DSp := fun ds L Q _ => ∃ (a : D) (b : D) (B : Nat) (p : Rat) (q : Rat), ds = [a, b] ∧ Raw B a p ∧ Raw B b q ∧ 2 * B + 1 ≤ 8000 ∧ q ≠ 0 ∧ Q (fr (p / q)) L
def sp_apart : DSp := fun ds L Q _ => ∃ (a : D) (b : D) (B : Nat) (p : Rat) (q : Rat), ds = [a, b] ∧ Raw B a p ∧ Raw B b q ∧ 2 * B + 1 ≤ 8000 ∧ Q (fr (rabs (p - q))) L
def sp_is_less : DSp := fun ds L Q _ => ∃ (a : D) (b : D) (B : Nat) (p : Rat) (q : Rat), ds = [a, b] ∧ Raw B a p ∧ Raw B b q ∧ 2 * B + 1 ≤ 8000 ∧ Q (.bl (decide (p < q))) L
def sp_limit : DSp := fun ds L Q _ => ds = [.str (PySem.Str.ofString "bits")] ∧ Q (.int 12000) L
/-- a number as it is written -/
def numS (n : Int) : Str := (toString n : String)
def slash : Str := PySem.Str.ofString "/"
def ftext (q : Rat) : Str := if q.den = 1 then numS q.num else numS q.num ++ slash ++ numS (q.den : Int)
def sp_fraction_text : DSp := fun ds L Q _ => ∃ (d : D) (q : Rat), ds = [d] ∧ Raw 1900 d q ∧ Q (.str (ftext q)) L
def sp__is_count : DSp := fun ds L Q _ => ∃ (n : Nat) (zero : Bool), ds = [.str (numS n), .bl zero] ∧ n < 10 ^ 60 ∧ ∀ L', Gr L L' → Q (.bl (if n = 0 then zero else true)) L'
/-- a text that writes q -/
inductive Word : Str → Rat → Prop
  | one (n : Nat) (h : n < 10 ^ 60) : Word (numS n) ((n : Int) : Rat)
  | two (t b : Nat) (h1 : t < 10 ^ 60) (h2 : b < 10 ^ 60) (h3 : 0 < b) : Word (numS t ++ slash ++ numS b) (((t : Int) : Rat) / ((b : Int) : Rat))
def sp_fraction_or_none : DSp := fun ds L Q _ => ∃ (z : Str) (q : Rat), ds = [.str z] ∧ Word z q ∧ ∀ L', Gr L L' → Q (fr q) L'
def sp_read_fraction : DSp := sp_fraction_or_none
/-! the law's own -/
structure BagOk (L : LHp) (b c : Addr) : Prop where
  ex : ∃ (cells : List Int) (p : Nat) (r k m n : Int), L b = some (.lst [.ref c, .int p, .int r, .int k, .int m, .int n]) ∧ L c = some (.lst (cells.map .int)) ∧ 0 ≤ r ∧ (0 ≤ m ∧ m < 2147483399) ∧ 0 ≤ n ∧ cells.length ≤ 63
structure Dr (b c : Addr) (L L' : LHp) : Prop where
  ok : BagOk L' b c
  kp : ∀ a o, a ≠ b → L a = some o → L' a = some o
def sp__law_bag : DSp := fun ds L Q _ => ∃ (ns : List Int), ds = [.fls (ns.map .int)] ∧ ns.length ≤ 63 ∧ ∀ (b c : Addr) (L' : LHp), L b = none → BagOk L' b c → Gr L L' → Q (.ref b) L'
def sp__law_draw : DSp := fun ds L Q _ => ∃ (b c : Addr) (many : Int), ds = [.ref b, .int many] ∧ BagOk L b c ∧ (0 < many ∧ many.natAbs < 2 ^ 8000) ∧ ∀ d (L' : LHp), (0 ≤ d ∧ d < many) → Dr b c L L' → Q (.int d) L'
def sp__law_of : DSp := fun ds L Q _ => ∃ (b c : Addr) (t : Addr) (xs : List D), ds = [.ref b, .ref t] ∧ BagOk L b c ∧ t ≠ b ∧ LRd L t xs ∧ (0 < xs.length ∧ xs.length ≤ 1000) ∧ ∀ d (L' : LHp), d ∈ xs → Dr b c L L' → Q d L'
def sp__law_mixed : DSp := fun ds L Q _ => ∃ (b c : Addr) (t : Addr) (xs : List D), ds = [.ref b, .ref t] ∧ BagOk L b c ∧ t ≠ b ∧ LRd L t xs ∧ xs.length ≤ 1000 ∧ ∀ (p : Addr) (ys : List D) (L' : LHp), L p = none → ys.Perm xs → L' p = some (.lst ys) → Dr b c L L' → Q (.ref p) L'
/-- values that are told: whole numbers, truth values, texts, tuples of whole numbers -/
inductive Sc : D → Prop
  | int (i : Int) : Sc (.int i)
  | bl (b : Bool) : Sc (.bl b)
  | str (z : Str) : Sc (.str z)
inductive Told : D → Prop
  | sc {d : D} (h : Sc d) : Told d
  | two (i j : Int) : Told (.tup [.int i, .int j])
def sp__law_like0 : DSp := fun ds L Q _ => ∃ (d : D), ds = [d, d] ∧ Sc d ∧ Q (.bl true) L
def sp__law_like : DSp := fun ds L Q _ => ∃ (d : D), ds = [d, d] ∧ Told d ∧ ∀ L', Gr L L' → Q (.bl true) L'
def sp__law_gcd : DSp := fun ds L Q _ => ∃ (a : Int) (b : Int), ds = [.int a, .int b] ∧ 0 ≤ a ∧ 0 ≤ b ∧ Q (.int ((Nat.gcd a.natAbs b.natAbs : Nat) : Int)) L
def sp__law_pair : DSp := fun ds L Q _ => ∃ (t : Int) (b : Int), ds = [.int t, .int b] ∧ 0 ≤ t ∧ 0 < b ∧ b.natAbs < 2 ^ 8000 ∧ Q (fr ((t : Rat) / (b : Rat))) L
def sp__law_add : DSp := fun ds L Q _ => ∃ (B : Nat) (p : Rat) (q : Rat), ds = [fr p, fr q] ∧ Bd B p ∧ Bd B q ∧ 2 * B + 1 ≤ 8000 ∧ Q (fr (p + q)) L
def sp__law_mul : DSp := fun ds L Q _ => ∃ (B : Nat) (p : Rat) (q : Rat), ds = [fr p, fr q] ∧ Bd B p ∧ Bd B q ∧ 2 * B + 1 ≤ 8000 ∧ Q (fr (p * q)) L
def sp__law_less : DSp := fun ds L Q _ => ∃ (B : Nat) (p : Rat) (q : Rat), ds = [fr p, fr q] ∧ Bd B p ∧ Bd B q ∧ 2 * B + 1 ≤ 8000 ∧ Q (.bl (decide (p < q))) L
def sp__law_apart : DSp := fun ds L Q _ => ∃ (B : Nat) (p : Rat) (q : Rat), ds = [fr p, fr q] ∧ Bd B p ∧ Bd B q ∧ 2 * B + 1 ≤ 8000 ∧ Q (fr (rabs (p - q))) L
def sp__law_total : DSp := fun ds L Q _ => ∃ (t : Addr) (B : Nat) (qs : List Rat), ds = [.ref t] ∧ LRd L t (qs.map fr) ∧ (∀ q ∈ qs, Bd B q) ∧ (B + 1) * qs.length + 1 ≤ 3000 ∧ B ≤ 1000 ∧ Q (fr (rsum qs)) L
def sp__law_word : DSp := fun ds L Q _ => ∃ (q : Rat), ds = [fr q] ∧ Bd 1900 q ∧ Q (.str (ftext q)) L
def sp__law_odd_word : DSp := fun ds L Q _ => ∃ (b c : Addr) (q : Rat), ds = [.ref b, fr q] ∧ BagOk L b c ∧ Bd 190 q ∧ ∀ (z : Str) (L' : LHp), Dr b c L L' → Word z q → Q (.str z) L'
def Fracs (L : LHp) (t : Addr) (qs : List Rat) : Prop := L t = some (.lst (qs.map fr))
def sp__law_things : DSp := fun ds L Q _ => ∃ (b c : Addr), ds = [.ref b] ∧ BagOk L b c ∧ ∀ (p : Addr) (qs : List Rat) (L' : LHp), L p = none → Dr b c L L' → Fracs L' p qs → (4 ≤ qs.length ∧ qs.length ≤ 9) → (∀ q ∈ qs, Bd 130 q) → (∃ q ∈ qs, ∃ r ∈ qs, q ≠ r) → Q (.ref p) L'
def sp__law_raw : DSp := fun ds L Q _ => ∃ (b c : Addr) (q : Rat), ds = [.ref b, fr q] ∧ BagOk L b c ∧ Bd 130 q ∧ ∀ d (L' : LHp), Dr b c L L' → Raw 170 d q → Q d L'
def sp__law_plus : DSp := fun ds L Q _ => ∃ (t : Addr) (B : Nat) (xs : List D) (qs : List Rat), ds = [.ref t] ∧ LRd L t xs ∧ RawL B xs qs ∧ xs.length ≤ 9 ∧ (B + 1) * 9 + 1 ≤ 8000 ∧ ∀ L', Gr L L' → Q (fr (rsum qs)) L'
def sp__law_times : DSp := fun ds L Q _ => ∃ (t : Addr) (B : Nat) (xs : List D) (qs : List Rat), ds = [.ref t] ∧ LRd L t xs ∧ RawL B xs qs ∧ xs.length ≤ 7 ∧ (B + 1) * 9 + 1 ≤ 8000 ∧ ∀ L', Gr L L' → Q (fr (rprod qs)) L'
def sp__law_each_two : DSp := fun ds L Q _ => ∃ (b c : Addr) (t : Addr) (qs : List Rat), ds = [.ref b, .ref t] ∧ BagOk L b c ∧ t ≠ b ∧ Fracs L t qs ∧ (∀ q ∈ qs, Bd 130 q) ∧ ∀ L', Dr b c L L' → Q (.bl true) L'
def sp__law_in_order : DSp := fun ds L Q _ => ∃ (t : Addr) (qs : List Rat), ds = [.ref t] ∧ Fracs L t qs ∧ (∀ q ∈ qs, Bd 130 q) ∧ qs.length ≤ 9 ∧ ∀ (p : Addr) (rs : List Rat) (L' : LHp), L p = none → Gr L L' → Fracs L' p rs → rs.Perm qs → rs.Pairwise (· ≤ ·) → Q (.ref p) L'
def sp_law : DSp := fun ds L Q _ => ∃ (ns : List Int), ds = [.fls (ns.map .int)] ∧ ns.length ≤ 63 ∧ ∀ L', Q (.bl true) L'
def d_is_number : DS :=
    (dRet (dAndV (dCB rIsiD (dCons (dVar 0) (dCons (dC (.ty "int")) dNil))) (dNotV (dCB rIsiD (dCons (dVar 0) (dCons (dC (.ty "bool")) dNil))))))
def d_is_fraction : DS :=
    (dSeq (dIfS (dB (dCall sp_is_number ED0 (dCons (dVar 0) dNil)))
      (dRet (dOp rGeD (dVar 0) (dC (.int 0))))
      dNext)
      (dSeq (dIfS (dOr (dNot (dB (dCB rIsiD (dCons (dVar 0) (dCons (dC (.ty "tuple")) dNil))))) (dB (dOp (rEqv true) (dCB rLenD (dCons (dVar 0) dNil)) (dC (.int 2)))))
      (dRet (dC (.bl false)))
      dNext)
      (dSeq (dAsg (dVar 0) (dgTup 2 (dgCons (dgName 1) (dgCons (dgName 2) dgNil))))
      (dRet (dAndV (dCall sp_is_number ED0 (dCons (dVar 1) dNil)) (dAndV (dCall sp_is_number ED0 (dCons (dVar 2) dNil)) (dAndV (dOp rGeD (dVar 1) (dC (.int 0))) (dOp rGeD (dVar 2) (dC (.int 1))))))))))
def d__check : DS :=
    (dForT (dVar 0) (dgName 1) (dIfS (dNot (dB (dCall sp_is_fraction ED0 (dCons (dVar 1) dNil))))
      dNever
      dNext))
def d__reduced : DS :=
    (dSeq (dIfS (dNot (dB (dCB rIsiD (dCons (dVar 0) (dCons (dC (.ty "tuple")) dNil)))))
      (dRet (dTup (dCons (dVar 0) (dCons (dC (.int 1)) dNil))))
      dNext)
      (dSeq (dAsg (dVar 0) (dgTup 2 (dgCons (dgName 1) (dgCons (dgName 2) dgNil))))
      (dSeq (dSet 3 (dCB rGcdD (dCons (dVar 1) (dCons (dVar 2) dNil))))
      (dRet (dTup (dCons (dOp rDivD (dVar 1) (dVar 3)) (dCons (dOp rDivD (dVar 2) (dVar 3)) dNil)))))))
def d__is_count : DS :=
    (dSeq (dIfS (dB (dOp (rEqv false) (dVar 0) (dC (.str (PySem.Str.ofString "0")))))
      (dRet (dVar 1))
      dNext)
      (dSeq (dIfS (dOr (dB (dOp (rEqv false) (dVar 0) (dC (.str (PySem.Str.ofString ""))))) (dOr (dB (dOp rGtD (dCB rLenD (dCons (dVar 0) dNil)) (dC (.int 60)))) (dB (dOp (rEqv false) (dOp rIxD (dVar 0) (dC (.int 0))) (dC (.str (PySem.Str.ofString "0")))))))
      (dRet (dC (.bl false)))
      dNext)
      (dRet (dCB rAllD (dCons (dLcS 2 (dVar 0) dTYes (dOp rInSD (dVar 2) (dC (.str (PySem.Str.ofString "0123456789"))))) dNil)))))
def d_fraction_or_none : DS :=
    (dSeq (dSet 1 (dBM "str" rFindD (dVar 0) (dCons (dC (.str (PySem.Str.ofString "/"))) dNil)))
      (dSeq (dIfS (dB (dOp rLtD (dVar 1) (dC (.int 0))))
      (dRet (dIf (dB (dCall sp__is_count ED0 (dCons (dVar 0) (dCons (dC (.bl true)) dNil)))) (dTup (dCons (dCB rIntD (dCons (dVar 0) dNil)) (dCons (dC (.int 1)) dNil))) (dC .non)))
      dNext)
      (dSeq (dSet 2 (dSl (dVar 0) dNoPart (dPart (dVar 1))))
      (dSeq (dSet 3 (dSl (dVar 0) (dPart (dOp rAddD (dVar 1) (dC (.int 1)))) dNoPart))
      (dSeq (dIfS (dOr (dNot (dB (dCall sp__is_count ED0 (dCons (dVar 2) (dCons (dC (.bl true)) dNil))))) (dNot (dB (dCall sp__is_count ED0 (dCons (dVar 3) (dCons (dC (.bl false)) dNil))))))
      (dRet (dC .non))
      dNext)
      (dRet (dCall sp__reduced ED0 (dCons (dTup (dCons (dCB rIntD (dCons (dVar 2) dNil)) (dCons (dCB rIntD (dCons (dVar 3) dNil)) dNil))) dNil))))))))
def d_read_fraction : DS :=
    (dSeq (dIfS (dNot (dB (dCB rIsiD (dCons (dVar 0) (dCons (dC (.ty "str")) dNil)))))
      dNever
      dNext)
      (dSeq (dSet 1 (dCall sp_fraction_or_none ED0 (dCons (dVar 0) dNil)))
      (dSeq (dIfS (dB (dOp (rIsND false) (dVar 1) (dC .non)))
      dNever
      dNext)
      (dRet (dVar 1)))))
def d_lowest : DS :=
    (dSeq (dDrop (dCall sp__check ED0 (dCons (dTup (dCons (dVar 0) dNil)) dNil)))
      (dRet (dCall sp__reduced ED0 (dCons (dVar 0) dNil))))
def d_fraction_text : DS :=
    (dSeq (dDrop (dCall sp__check ED0 (dCons (dTup (dCons (dVar 0) dNil)) dNil)))
      (dSeq (dAsg (dCall sp__reduced ED0 (dCons (dVar 0) dNil)) (dgTup 2 (dgCons (dgName 1) (dgCons (dgName 2) dgNil))))
      (dSeq (dSet 3 (dCB rMaxD (dCons (dBits (dVar 1)) (dCons (dBits (dVar 2)) dNil))))
      (dSeq (dIfS (dB (dOp rGtD (dVar 3) (dCall sp_limit ED0 (dCons (dC (.str (PySem.Str.ofString "bits"))) dNil))))
      dNever
      dNext)
      (dRet (dIf (dB (dOp (rEqv false) (dVar 2) (dC (.int 1)))) (dCB rStrD (dCons (dVar 1) dNil)) (fun τ L Q => dJs [(dFmt (dVar 1)), (dC (.str (PySem.Str.ofString "/"))), (dFmt (dVar 2))] Str.empty τ L fun out L1 => Q (.str out) L1)))))))
def d_plus : DS :=
    (dSeq (dDrop (dCall sp__check ED0 (dCons (dVar 0) dNil)))
      (dSeq (dSet 1 (dC (.int 0)))
      (dSeq (dSet 2 (dC (.int 1)))
      (dSeq (dForT (dVar 0) (dgName 3) (dSeq (dAsg (dCall sp__reduced ED0 (dCons (dVar 3) dNil)) (dgTup 2 (dgCons (dgName 4) (dgCons (dgName 5) dgNil))))
      (dSeq (dSet 6 (dCB rGcdD (dCons (dVar 2) (dCons (dVar 5) dNil))))
      (dSeq (dSet 1 (dOp rAddD (dOp rMulD (dVar 1) (dOp rDivD (dVar 5) (dVar 6))) (dOp rMulD (dVar 4) (dOp rDivD (dVar 2) (dVar 6)))))
      (dSet 2 (dOp rMulD (dOp rDivD (dVar 2) (dVar 6)) (dVar 5)))))))
      (dRet (dCall sp__reduced ED0 (dCons (dTup (dCons (dVar 1) (dCons (dVar 2) dNil))) dNil)))))))
def d_times : DS :=
    (dSeq (dDrop (dCall sp__check ED0 (dCons (dVar 0) dNil)))
      (dSeq (dSet 1 (dTup (dCons (dC (.int 1)) (dCons (dC (.int 1)) dNil))))
      (dSeq (dForT (dVar 0) (dgName 2) (dSeq (dAsg (dCall sp__reduced ED0 (dCons (dVar 2) dNil)) (dgTup 2 (dgCons (dgName 3) (dgCons (dgName 4) dgNil))))
      (dSet 1 (dCall sp__reduced ED0 (dCons (dTup (dCons (dOp rMulD (dOp rIxD (dVar 1) (dC (.int 0))) (dVar 3)) (dCons (dOp rMulD (dOp rIxD (dVar 1) (dC (.int 1))) (dVar 4)) dNil))) dNil)))))
      (dRet (dVar 1)))))
def d_quotient : DS :=
    (dSeq (dDrop (dCall sp__check ED0 (dCons (dTup (dCons (dVar 0) (dCons (dVar 1) dNil))) dNil)))
      (dSeq (dAsg (dCall sp__reduced ED0 (dCons (dVar 0) dNil)) (dgTup 2 (dgCons (dgName 2) (dgCons (dgName 3) dgNil))))
      (dSeq (dAsg (dCall sp__reduced ED0 (dCons (dVar 1) dNil)) (dgTup 2 (dgCons (dgName 4) (dgCons (dgName 5) dgNil))))
      (dSeq (dIfS (dB (dOp (rEqv false) (dVar 4) (dC (.int 0))))
      dNever
      dNext)
      (dRet (dCall sp__reduced ED0 (dCons (dTup (dCons (dOp rMulD (dVar 2) (dVar 5)) (dCons (dOp rMulD (dVar 3) (dVar 4)) dNil))) dNil)))))))
def d_apart : DS :=
    (dSeq (dDrop (dCall sp__check ED0 (dCons (dTup (dCons (dVar 0) (dCons (dVar 1) dNil))) dNil)))
      (dSeq (dAsg (dCall sp__reduced ED0 (dCons (dVar 0) dNil)) (dgTup 2 (dgCons (dgName 2) (dgCons (dgName 3) dgNil))))
      (dSeq (dAsg (dCall sp__reduced ED0 (dCons (dVar 1) dNil)) (dgTup 2 (dgCons (dgName 4) (dgCons (dgName 5) dgNil))))
      (dRet (dCall sp__reduced ED0 (dCons (dTup (dCons (dCB rAbsD (dCons (dOp rSubD (dOp rMulD (dVar 2) (dVar 5)) (dOp rMulD (dVar 4) (dVar 3))) dNil)) (dCons (dOp rMulD (dVar 3) (dVar 5)) dNil))) dNil))))))
def d_is_less : DS :=
    (dSeq (dDrop (dCall sp__check ED0 (dCons (dTup (dCons (dVar 0) (dCons (dVar 1) dNil))) dNil)))
      (dSeq (dAsg (dCall sp__reduced ED0 (dCons (dVar 0) dNil)) (dgTup 2 (dgCons (dgName 2) (dgCons (dgName 3) dgNil))))
      (dSeq (dAsg (dCall sp__reduced ED0 (dCons (dVar 1) dNil)) (dgTup 2 (dgCons (dgName 4) (dgCons (dgName 5) dgNil))))
      (dRet (dOp rLtD (dOp rMulD (dVar 2) (dVar 5)) (dOp rMulD (dVar 4) (dVar 3)))))))
def d__law_bag : DS :=
    (dSeq (dSet 1 (dC (.int 52711)))
      (dSeq (dForR (dCons (dCB rMinD (dCons (dC (.int 63)) (dCons (dCB rLenD (dCons (dVar 0) dNil)) dNil))) dNil) (dgName 2) (dSet 1 (dOp rModD (dCB rIntD (dCons (dOp rAddD (dOp rAddD (dOp rAddD (dOp rMulD (dVar 1) (dC (.int 40014))) (dOp rModD (dCB rIntD (dCons (dOp rIxD (dVar 0) (dVar 2)) dNil)) (dC (.int 2147483563)))) (dOp rMulD (dC (.int 29)) (dVar 2))) (dC (.int 13))) dNil)) (dC (.int 2147483399)))))
      (dRet (dLst (dCons (dLcR 2 (dCons (dCB rMinD (dCons (dC (.int 63)) (dCons (dCB rLenD (dCons (dVar 0) dNil)) dNil))) dNil) dTYes (dCB rIntD (dCons (dOp rIxD (dVar 0) (dVar 2)) dNil))) (dCons (dC (.int 0)) (dCons (dC (.int 0)) (dCons (dC (.int 0)) (dCons (dVar 1) (dCons (dC (.int 0)) dNil))))))))))
def d__law_draw : DS :=
    (dSeq (dAsg (dOp rAddD (dOp rIxD (dVar 0) (dC (.int 5))) (dC (.int 1))) (dgSub (dVar 0) (dC (.int 5))))
      (dSeq (dIfS (dAnd (dB (dOp (rEqv false) (dOp rIxD (dVar 0) (dC (.int 2))) (dC (.int 0)))) (dB (dOp rLtD (dOp rIxD (dVar 0) (dC (.int 1))) (dCB rLenD (dCons (dOp rIxD (dVar 0) (dC (.int 0))) dNil)))))
      (dSeq (dSet 2 (dOp rIxD (dOp rIxD (dVar 0) (dC (.int 0))) (dOp rIxD (dVar 0) (dC (.int 1)))))
      (dSeq (dAsg (dOp rAddD (dOp rIxD (dVar 0) (dC (.int 1))) (dC (.int 1))) (dgSub (dVar 0) (dC (.int 1))))
      (dIfS (dB (dOp rGeD (dVar 2) (dOp rPowD (dC (.int 10)) (dC (.int 18)))))
      (dSeq (dAsg (dVar 2) (dgSub (dVar 0) (dC (.int 2))))
      (dAsg (dC (.int 60)) (dgSub (dVar 0) (dC (.int 3)))))
      (dAsg (dOp rModD (dCB rIntD (dCons (dOp rAddD (dOp rAddD (dOp rMulD (dOp rIxD (dVar 0) (dC (.int 4))) (dC (.int 69621))) (dOp rModD (dCB rIntD (dCons (dVar 2) dNil)) (dC (.int 2147483629)))) (dC (.int 11))) dNil)) (dC (.int 2147483399))) (dgSub (dVar 0) (dC (.int 4)))))))
      dNext)
      (dSeq (dIfS (dB (dOp rGtD (dOp rIxD (dVar 0) (dC (.int 2))) (dC (.int 0))))
      (dSeq (dSet 3 (dOp rModD (dCB rIntD (dCons (dOp rIxD (dVar 0) (dC (.int 2))) dNil)) (dVar 1)))
      (dSeq (dAsg (dOp rSubD (dOp rIxD (dVar 0) (dC (.int 3))) (dC (.int 1))) (dgSub (dVar 0) (dC (.int 3))))
      (dSeq (dAsg (dIf (dB (dOp rGtD (dOp rIxD (dVar 0) (dC (.int 3))) (dC (.int 0)))) (dOp rDivD (dOp rIxD (dVar 0) (dC (.int 2))) (dVar 1)) (dC (.int 0))) (dgSub (dVar 0) (dC (.int 2))))
      (dRet (dVar 3)))))
      dNext)
      (dSeq (dAsg (dOp rModD (dCB rIntD (dCons (dOp rAddD (dOp rAddD (dOp rPowD (dOp rIxD (dVar 0) (dC (.int 4))) (dC (.int 3))) (dOp rMulD (dOp rIxD (dVar 0) (dC (.int 5))) (dC (.int 1000003)))) (dC (.int 4409))) dNil)) (dC (.int 2147483399))) (dgSub (dVar 0) (dC (.int 4))))
      (dRet (dOp rModD (dCB rIntD (dCons (dOp rAddD (dOp rDivD (dOp rIxD (dVar 0) (dC (.int 4))) (dC (.int 127))) (dOp rMulD (dOp rModD (dCB rIntD (dCons (dOp rIxD (dVar 0) (dC (.int 4))) dNil)) (dC (.int 8191))) (dC (.int 67)))) dNil)) (dVar 1)))))))
def d__law_of : DS :=
    (dRet (dOp rIxD (dVar 1) (dCall sp__law_draw ED0 (dCons (dVar 0) (dCons (dCB rLenD (dCons (dVar 1) dNil)) dNil)))))
def d__law_mixed : DS :=
    (dSeq (dSet 2 (dCB rListD (dCons (dVar 1) dNil)))
      (dSeq (dSet 3 (dLst dNil))
      (dSeq (dForR (dCons (dCB rLenD (dCons (dVar 1) dNil)) dNil) (dgName 4) (dDrop (dBM "list" rAppD (dVar 3) (dCons (dBM "list" rPopD (dVar 2) (dCons (dCall sp__law_draw ED0 (dCons (dVar 0) (dCons (dCB rLenD (dCons (dVar 2) dNil)) dNil))) dNil)) dNil))))
      (dRet (dVar 3)))))
def d__law_like (sp__law_like : DSp) : DS :=
    (dSeq (dIfS (dOr (dB (dCB rIsiD (dCons (dVar 1) (dCons (dC (.ty "list")) dNil)))) (dB (dCB rIsiD (dCons (dVar 1) (dCons (dC (.ty "tuple")) dNil)))))
      (dSeq (dIfS (dOr (dB (dOp (rEqv true) (dCB rIsiD (dCons (dVar 0) (dCons (dC (.ty "list")) dNil))) (dCB rIsiD (dCons (dVar 1) (dCons (dC (.ty "list")) dNil))))) (dB (dOp (rEqv true) (dCB rIsiD (dCons (dVar 0) (dCons (dC (.ty "tuple")) dNil))) (dCB rIsiD (dCons (dVar 1) (dCons (dC (.ty "tuple")) dNil))))))
      (dRet (dC (.bl false)))
      dNext)
      (dSeq (dIfS (dB (dOp (rEqv true) (dCB rLenD (dCons (dVar 0) dNil)) (dCB rLenD (dCons (dVar 1) dNil))))
      (dRet (dC (.bl false)))
      dNext)
      (dRet (dOp (rEqv false) (dLcR 2 (dCons (dCB rLenD (dCons (dVar 1) dNil)) dNil) (dNot (dB (dCall sp__law_like ED0 (dCons (dOp rIxD (dVar 0) (dVar 2)) (dCons (dOp rIxD (dVar 1) (dVar 2)) dNil))))) (dVar 2)) (dLst dNil)))))
      dNext)
      (dSeq (dIfS (dB (dCB rIsiD (dCons (dVar 1) (dCons (dC (.ty "dict")) dNil))))
      (dSeq (dIfS (dOr (dNot (dB (dCB rIsiD (dCons (dVar 0) (dCons (dC (.ty "dict")) dNil))))) (dB (dOp (rEqv true) (dCB rLenD (dCons (dVar 0) dNil)) (dCB rLenD (dCons (dVar 1) dNil)))))
      (dRet (dC (.bl false)))
      dNext)
      dNever)
      dNext)
      (dSeq (dIfS (dB (dOp (rIsND false) (dVar 1) (dC .non)))
      (dRet (dOp (rIsND false) (dVar 0) (dC .non)))
      dNext)
      (dSeq (dIfS (dOr (dB (dOp (rEqv true) (dCB rIsiD (dCons (dVar 0) (dCons (dC (.ty "bool")) dNil))) (dCB rIsiD (dCons (dVar 1) (dCons (dC (.ty "bool")) dNil))))) (dB (dOp (rEqv true) (dCB rIsiD (dCons (dVar 0) (dCons (dC (.ty "int")) dNil))) (dCB rIsiD (dCons (dVar 1) (dCons (dC (.ty "int")) dNil))))))
      (dRet (dC (.bl false)))
      dNext)
      (dRet (dAndV (dOp (rEqv false) (dCB rIsiD (dCons (dVar 0) (dCons (dC (.ty "str")) dNil))) (dCB rIsiD (dCons (dVar 1) (dCons (dC (.ty "str")) dNil)))) (dOp (rEqv false) (dVar 0) (dVar 1))))))))
def d__law_gcd : DS :=
    (dSeq (dWhile (dB (dOp (rEqv true) (dVar 1) (dC (.int 0)))) (dPar 0 1 (dCons (dVar 1) (dCons (dOp rModD (dCB rIntD (dCons (dVar 0) dNil)) (dVar 1)) dNil))))
      (dRet (dVar 0)))
def d__law_pair : DS :=
    (dSeq (dSet 2 (dCall sp__law_gcd ED0 (dCons (dVar 0) (dCons (dVar 1) dNil))))
      (dRet (dTup (dCons (dOp rDivD (dVar 0) (dVar 2)) (dCons (dOp rDivD (dVar 1) (dVar 2)) dNil)))))
def d__law_add : DS :=
    (dRet (dCall sp__law_pair ED0 (dCons (dOp rAddD (dOp rMulD (dOp rIxD (dVar 0) (dC (.int 0))) (dOp rIxD (dVar 1) (dC (.int 1)))) (dOp rMulD (dOp rIxD (dVar 1) (dC (.int 0))) (dOp rIxD (dVar 0) (dC (.int 1))))) (dCons (dOp rMulD (dOp rIxD (dVar 0) (dC (.int 1))) (dOp rIxD (dVar 1) (dC (.int 1)))) dNil))))
def d__law_mul : DS :=
    (dRet (dCall sp__law_pair ED0 (dCons (dOp rMulD (dOp rIxD (dVar 0) (dC (.int 0))) (dOp rIxD (dVar 1) (dC (.int 0)))) (dCons (dOp rMulD (dOp rIxD (dVar 0) (dC (.int 1))) (dOp rIxD (dVar 1) (dC (.int 1)))) dNil))))
def d__law_less : DS :=
    (dRet (dOp rLtD (dOp rMulD (dOp rIxD (dVar 0) (dC (.int 0))) (dOp rIxD (dVar 1) (dC (.int 1)))) (dOp rMulD (dOp rIxD (dVar 1) (dC (.int 0))) (dOp rIxD (dVar 0) (dC (.int 1))))))
def d__law_total : DS :=
    (dSeq (dSet 1 (dTup (dCons (dC (.int 0)) (dCons (dC (.int 1)) dNil))))
      (dSeq (dForL (dVar 0) (dgName 2) (dSet 1 (dCall sp__law_add ED0 (dCons (dVar 1) (dCons (dVar 2) dNil)))))
      (dRet (dVar 1))))
def d__law_word : DS :=
    (dRet (dIf (dB (dOp (rEqv false) (dOp rIxD (dVar 0) (dC (.int 1))) (dC (.int 1)))) (dCB rStrD (dCons (dOp rIxD (dVar 0) (dC (.int 0))) dNil)) (dOp rAddD (dOp rAddD (dCB rStrD (dCons (dOp rIxD (dVar 0) (dC (.int 0))) dNil)) (dC (.str (PySem.Str.ofString "/")))) (dCB rStrD (dCons (dOp rIxD (dVar 0) (dC (.int 1))) dNil)))))
def d__law_odd_word : DS :=
    (dSeq (dSet 2 (dCall sp__law_of ED0 (dCons (dVar 0) (dCons (dLst (dCons (dC (.int 1)) (dCons (dC (.int 1)) (dCons (dC (.int 2)) (dCons (dC (.int 3)) (dCons (dC (.int 1)) (dCons (dC (.int 5)) dNil))))))) dNil))))
      (dSeq (dIfS (dB (dOp (rEqv false) (dVar 2) (dC (.int 1))))
      (dRet (dCall sp__law_word ED0 (dCons (dVar 1) dNil)))
      dNext)
      (dRet (dOp rAddD (dOp rAddD (dCB rStrD (dCons (dOp rMulD (dOp rIxD (dVar 1) (dC (.int 0))) (dVar 2)) dNil)) (dC (.str (PySem.Str.ofString "/")))) (dCB rStrD (dCons (dOp rMulD (dOp rIxD (dVar 1) (dC (.int 1))) (dVar 2)) dNil))))))
def d__law_things : DS :=
    (dSeq (dPar 1 2 (dCons (dCall sp__law_draw ED0 (dCons (dVar 0) (dCons (dC (.int 12)) dNil))) (dCons (dOp rAddD (dC (.int 1)) (dCall sp__law_draw ED0 (dCons (dVar 0) (dCons (dC (.int 9)) dNil)))) dNil)))
      (dSeq (dIfS (dB (dOp (rEqv false) (dCall sp__law_draw ED0 (dCons (dVar 0) (dCons (dC (.int 3)) dNil))) (dC (.int 0))))
      (dPar 1 2 (dCons (dCall sp__law_draw ED0 (dCons (dVar 0) (dCons (dOp rPowD (dC (.int 10)) (dC (.int 30))) dNil))) (dCons (dOp rAddD (dC (.int 1)) (dCall sp__law_draw ED0 (dCons (dVar 0) (dCons (dOp rPowD (dC (.int 10)) (dC (.int 30))) dNil)))) dNil)))
      dNext)
      (dSeq (dSet 3 (dOp rAddD (dC (.int 1)) (dCall sp__law_draw ED0 (dCons (dVar 0) (dCons (dC (.int 7)) dNil)))))
      (dSeq (dSet 4 (dLst (dCons (dCall sp__law_pair ED0 (dCons (dVar 1) (dCons (dVar 2) dNil))) (dCons (dCall sp__law_pair ED0 (dCons (dOp rAddD (dOp rMulD (dVar 1) (dVar 3)) (dC (.int 1))) (dCons (dOp rMulD (dVar 2) (dVar 3)) dNil))) dNil))))
      (dSeq (dForR (dCons (dOp rAddD (dC (.int 1)) (dCall sp__law_draw ED0 (dCons (dVar 0) (dCons (dC (.int 6)) dNil)))) dNil) (dgName 5) (dSeq (dSet 6 (dCall sp__law_draw ED0 (dCons (dVar 0) (dCons (dC (.int 6)) dNil))))
      (dIfS (dB (dOp (rEqv false) (dVar 6) (dC (.int 0))))
      (dDrop (dBM "list" rAppD (dVar 4) (dCons (dOp rIxD (dVar 4) (dCall sp__law_draw ED0 (dCons (dVar 0) (dCons (dCB rLenD (dCons (dVar 4) dNil)) dNil)))) dNil)))
      (dIfS (dB (dOp (rEqv false) (dVar 6) (dC (.int 1))))
      (dDrop (dBM "list" rAppD (dVar 4) (dCons (dTup (dCons (dCall sp__law_of ED0 (dCons (dVar 0) (dCons (dLst (dCons (dC (.int 0)) (dCons (dC (.int 0)) (dCons (dC (.int 1)) (dCons (dC (.int 5)) (dCons (dOp rPowD (dC (.int 10)) (dC (.int 29))) dNil)))))) dNil))) (dCons (dC (.int 1)) dNil))) dNil)))
      (dIfS (dB (dOp (rEqv false) (dVar 6) (dC (.int 2))))
      (dSeq (dSet 7 (dOp rIxD (dVar 4) (dCall sp__law_draw ED0 (dCons (dVar 0) (dCons (dCB rLenD (dCons (dVar 4) dNil)) dNil)))))
      (dDrop (dBM "list" rAppD (dVar 4) (dCons (dCall sp__law_pair ED0 (dCons (dOp rAddD (dOp rMulD (dOp rIxD (dVar 7) (dC (.int 0))) (dC (.int 3))) (dC (.int 1))) (dCons (dOp rMulD (dOp rIxD (dVar 7) (dC (.int 1))) (dC (.int 3))) dNil))) dNil))))
      (dIfS (dB (dOp (rEqv false) (dVar 6) (dC (.int 3))))
      (dDrop (dBM "list" rAppD (dVar 4) (dCons (dCall sp__law_pair ED0 (dCons (dCall sp__law_draw ED0 (dCons (dVar 0) (dCons (dOp rPowD (dC (.int 10)) (dC (.int 30))) dNil))) (dCons (dOp rAddD (dC (.int 1)) (dCall sp__law_draw ED0 (dCons (dVar 0) (dCons (dOp rPowD (dC (.int 10)) (dC (.int 30))) dNil)))) dNil))) dNil)))
      (dDrop (dBM "list" rAppD (dVar 4) (dCons (dCall sp__law_pair ED0 (dCons (dCall sp__law_draw ED0 (dCons (dVar 0) (dCons (dC (.int 20)) dNil))) (dCons (dOp rAddD (dC (.int 1)) (dCall sp__law_draw ED0 (dCons (dVar 0) (dCons (dC (.int 12)) dNil)))) dNil))) dNil)))))))))
      (dRet (dCall sp__law_mixed ED0 (dCons (dVar 0) (dCons (dOp rAddD (dVar 4) (dLst (dCons (dCall sp__law_of ED0 (dCons (dVar 0) (dCons (dLst (dCons (dTup (dCons (dC (.int 1)) (dCons (dC (.int 3)) dNil))) (dCons (dTup (dCons (dC (.int 1)) (dCons (dC (.int 2)) dNil))) (dCons (dTup (dCons (dC (.int 0)) (dCons (dC (.int 1)) dNil))) dNil)))) dNil))) dNil))) dNil)))))))))
def d__law_raw : DS :=
    (dSeq (dIfS (dAnd (dB (dOp (rEqv false) (dOp rIxD (dVar 1) (dC (.int 1))) (dC (.int 1)))) (dB (dOp (rEqv false) (dCall sp__law_draw ED0 (dCons (dVar 0) (dCons (dC (.int 2)) dNil))) (dC (.int 0)))))
      (dRet (dOp rIxD (dVar 1) (dC (.int 0))))
      dNext)
      (dSeq (dSet 2 (dCall sp__law_of ED0 (dCons (dVar 0) (dCons (dLst (dCons (dC (.int 1)) (dCons (dC (.int 2)) (dCons (dC (.int 1)) (dCons (dC (.int 3)) (dCons (dC (.int 10)) (dCons (dOp rPowD (dC (.int 10)) (dC (.int 12))) dNil))))))) dNil))))
      (dRet (dTup (dCons (dOp rMulD (dOp rIxD (dVar 1) (dC (.int 0))) (dVar 2)) (dCons (dOp rMulD (dOp rIxD (dVar 1) (dC (.int 1))) (dVar 2)) dNil))))))
def d__law_apart : DS :=
    (dSeq (dIfS (dB (dCall sp__law_less ED0 (dCons (dVar 0) (dCons (dVar 1) dNil))))
      (dPar 0 1 (dCons (dVar 1) (dCons (dVar 0) dNil)))
      dNext)
      (dRet (dCall sp__law_pair ED0 (dCons (dOp rSubD (dOp rMulD (dOp rIxD (dVar 0) (dC (.int 0))) (dOp rIxD (dVar 1) (dC (.int 1)))) (dOp rMulD (dOp rIxD (dVar 1) (dC (.int 0))) (dOp rIxD (dVar 0) (dC (.int 1))))) (dCons (dOp rMulD (dOp rIxD (dVar 0) (dC (.int 1))) (dOp rIxD (dVar 1) (dC (.int 1)))) dNil)))))
def d__law_plus : DS :=
    (dSeq (dIfS (dB (dOp rLtD (dCB rLenD (dCons (dVar 0) dNil)) (dC (.int 2))))
      (dRet (dIf (dB (dOp (rEqv false) (dVar 0) (dLst dNil))) (dCall sp_plus ED0 dNil) (dCall sp_plus ED0 (dCons (dOp rIxD (dVar 0) (dC (.int 0))) dNil))))
      dNext)
      (dSeq (dIfS (dB (dOp (rEqv false) (dCB rLenD (dCons (dVar 0) dNil)) (dC (.int 2))))
      (dRet (dCall sp_plus ED0 (dCons (dOp rIxD (dVar 0) (dC (.int 0))) (dCons (dOp rIxD (dVar 0) (dC (.int 1))) dNil))))
      dNext)
      (dSeq (dIfS (dB (dOp (rEqv false) (dCB rLenD (dCons (dVar 0) dNil)) (dC (.int 3))))
      (dRet (dCall sp_plus ED0 (dCons (dOp rIxD (dVar 0) (dC (.int 0))) (dCons (dOp rIxD (dVar 0) (dC (.int 1))) (dCons (dOp rIxD (dVar 0) (dC (.int 2))) dNil)))))
      dNext)
      (dSeq (dIfS (dB (dOp (rEqv false) (dCB rLenD (dCons (dVar 0) dNil)) (dC (.int 4))))
      (dRet (dCall sp_plus ED0 (dCons (dOp rIxD (dVar 0) (dC (.int 0))) (dCons (dOp rIxD (dVar 0) (dC (.int 1))) (dCons (dOp rIxD (dVar 0) (dC (.int 2))) (dCons (dOp rIxD (dVar 0) (dC (.int 3))) dNil))))))
      dNext)
      (dSeq (dIfS (dB (dOp (rEqv false) (dCB rLenD (dCons (dVar 0) dNil)) (dC (.int 5))))
      (dRet (dCall sp_plus ED0 (dCons (dOp rIxD (dVar 0) (dC (.int 0))) (dCons (dOp rIxD (dVar 0) (dC (.int 1))) (dCons (dOp rIxD (dVar 0) (dC (.int 2))) (dCons (dOp rIxD (dVar 0) (dC (.int 3))) (dCons (dOp rIxD (dVar 0) (dC (.int 4))) dNil)))))))
      dNext)
      (dSeq (dIfS (dB (dOp (rEqv false) (dCB rLenD (dCons (dVar 0) dNil)) (dC (.int 6))))
      (dRet (dCall sp_plus ED0 (dCons (dOp rIxD (dVar 0) (dC (.int 0))) (dCons (dOp rIxD (dVar 0) (dC (.int 1))) (dCons (dOp rIxD (dVar 0) (dC (.int 2))) (dCons (dOp rIxD (dVar 0) (dC (.int 3))) (dCons (dOp rIxD (dVar 0) (dC (.int 4))) (dCons (dOp rIxD (dVar 0) (dC (.int 5))) dNil))))))))
      dNext)
      (dSeq (dIfS (dB (dOp (rEqv false) (dCB rLenD (dCons (dVar 0) dNil)) (dC (.int 7))))
      (dRet (dCall sp_plus ED0 (dCons (dOp rIxD (dVar 0) (dC (.int 0))) (dCons (dOp rIxD (dVar 0) (dC (.int 1))) (dCons (dOp rIxD (dVar 0) (dC (.int 2))) (dCons (dOp rIxD (dVar 0) (dC (.int 3))) (dCons (dOp rIxD (dVar 0) (dC (.int 4))) (dCons (dOp rIxD (dVar 0) (dC (.int 5))) (dCons (dOp rIxD (dVar 0) (dC (.int 6))) dNil)))))))))
      dNext)
      (dSeq (dIfS (dB (dOp (rEqv false) (dCB rLenD (dCons (dVar 0) dNil)) (dC (.int 8))))
      (dRet (dCall sp_plus ED0 (dCons (dOp rIxD (dVar 0) (dC (.int 0))) (dCons (dOp rIxD (dVar 0) (dC (.int 1))) (dCons (dOp rIxD (dVar 0) (dC (.int 2))) (dCons (dOp rIxD (dVar 0) (dC (.int 3))) (dCons (dOp rIxD (dVar 0) (dC (.int 4))) (dCons (dOp rIxD (dVar 0) (dC (.int 5))) (dCons (dOp rIxD (dVar 0) (dC (.int 6))) (dCons (dOp rIxD (dVar 0) (dC (.int 7))) dNil))))))))))
      dNext)
      (dRet (dCall sp_plus ED0 (dCons (dOp rIxD (dVar 0) (dC (.int 0))) (dCons (dOp rIxD (dVar 0) (dC (.int 1))) (dCons (dOp rIxD (dVar 0) (dC (.int 2))) (dCons (dOp rIxD (dVar 0) (dC (.int 3))) (dCons (dOp rIxD (dVar 0) (dC (.int 4))) (dCons (dOp rIxD (dVar 0) (dC (.int 5))) (dCons (dOp rIxD (dVar 0) (dC (.int 6))) (dCons (dOp rIxD (dVar 0) (dC (.int 7))) (dCons (dOp rIxD (dVar 0) (dC (.int 8))) dNil)))))))))))))))))))
def d__law_times : DS :=
    (dSeq (dIfS (dB (dOp rLtD (dCB rLenD (dCons (dVar 0) dNil)) (dC (.int 2))))
      (dRet (dIf (dB (dOp (rEqv false) (dVar 0) (dLst dNil))) (dCall sp_times ED0 dNil) (dCall sp_times ED0 (dCons (dOp rIxD (dVar 0) (dC (.int 0))) dNil))))
      dNext)
      (dSeq (dIfS (dB (dOp (rEqv false) (dCB rLenD (dCons (dVar 0) dNil)) (dC (.int 2))))
      (dRet (dCall sp_times ED0 (dCons (dOp rIxD (dVar 0) (dC (.int 0))) (dCons (dOp rIxD (dVar 0) (dC (.int 1))) dNil))))
      dNext)
      (dSeq (dIfS (dB (dOp (rEqv false) (dCB rLenD (dCons (dVar 0) dNil)) (dC (.int 3))))
      (dRet (dCall sp_times ED0 (dCons (dOp rIxD (dVar 0) (dC (.int 0))) (dCons (dOp rIxD (dVar 0) (dC (.int 1))) (dCons (dOp rIxD (dVar 0) (dC (.int 2))) dNil)))))
      dNext)
      (dSeq (dIfS (dB (dOp (rEqv false) (dCB rLenD (dCons (dVar 0) dNil)) (dC (.int 4))))
      (dRet (dCall sp_times ED0 (dCons (dOp rIxD (dVar 0) (dC (.int 0))) (dCons (dOp rIxD (dVar 0) (dC (.int 1))) (dCons (dOp rIxD (dVar 0) (dC (.int 2))) (dCons (dOp rIxD (dVar 0) (dC (.int 3))) dNil))))))
      dNext)
      (dSeq (dIfS (dB (dOp (rEqv false) (dCB rLenD (dCons (dVar 0) dNil)) (dC (.int 5))))
      (dRet (dCall sp_times ED0 (dCons (dOp rIxD (dVar 0) (dC (.int 0))) (dCons (dOp rIxD (dVar 0) (dC (.int 1))) (dCons (dOp rIxD (dVar 0) (dC (.int 2))) (dCons (dOp rIxD (dVar 0) (dC (.int 3))) (dCons (dOp rIxD (dVar 0) (dC (.int 4))) dNil)))))))
      dNext)
      (dSeq (dIfS (dB (dOp (rEqv false) (dCB rLenD (dCons (dVar 0) dNil)) (dC (.int 6))))
      (dRet (dCall sp_times ED0 (dCons (dOp rIxD (dVar 0) (dC (.int 0))) (dCons (dOp rIxD (dVar 0) (dC (.int 1))) (dCons (dOp rIxD (dVar 0) (dC (.int 2))) (dCons (dOp rIxD (dVar 0) (dC (.int 3))) (dCons (dOp rIxD (dVar 0) (dC (.int 4))) (dCons (dOp rIxD (dVar 0) (dC (.int 5))) dNil))))))))
      dNext)
      (dRet (dCall sp_times ED0 (dCons (dOp rIxD (dVar 0) (dC (.int 0))) (dCons (dOp rIxD (dVar 0) (dC (.int 1))) (dCons (dOp rIxD (dVar 0) (dC (.int 2))) (dCons (dOp rIxD (dVar 0) (dC (.int 3))) (dCons (dOp rIxD (dVar 0) (dC (.int 4))) (dCons (dOp rIxD (dVar 0) (dC (.int 5))) (dCons (dOp rIxD (dVar 0) (dC (.int 6))) dNil)))))))))))))))
def d__law_each_two : DS :=
    (dSeq (dForL (dVar 1) (dgName 2) (dSeq (dIfS (dNot (dB (dCall sp__law_like ED0 (dCons (dCall sp_lowest ED0 (dCons (dCall sp__law_raw ED0 (dCons (dVar 0) (dCons (dVar 2) dNil))) dNil)) (dCons (dVar 2) dNil)))))
      (dRet (dC (.bl false)))
      dNext)
      (dForL (dVar 1) (dgName 3) (dSeq (dSet 4 (dCall sp__law_less ED0 (dCons (dVar 2) (dCons (dVar 3) dNil))))
      (dSeq (dSet 5 (dCall sp__law_apart ED0 (dCons (dVar 2) (dCons (dVar 3) dNil))))
      (dSeq (dSet 6 (dCall sp_is_less ED0 (dCons (dCall sp__law_raw ED0 (dCons (dVar 0) (dCons (dVar 2) dNil))) (dCons (dCall sp__law_raw ED0 (dCons (dVar 0) (dCons (dVar 3) dNil))) dNil))))
      (dIfS (dOr (dNot (dB (dCall sp__law_like ED0 (dCons (dVar 6) (dCons (dVar 4) dNil))))) (dNot (dB (dCall sp__law_like ED0 (dCons (dCall sp_apart ED0 (dCons (dCall sp__law_raw ED0 (dCons (dVar 0) (dCons (dVar 2) dNil))) (dCons (dCall sp__law_raw ED0 (dCons (dVar 0) (dCons (dVar 3) dNil))) dNil))) (dCons (dVar 5) dNil))))))
      (dRet (dC (.bl false)))
      dNext)))))))
      (dRet (dC (.bl true))))
def d__law_in_order : DS :=
    (dSeq (dSet 1 (dLst dNil))
      (dSeq (dForL (dVar 0) (dgName 2) (dDrop (dBM "list" rInsD (dVar 1) (dCons (dCB rLenD (dCons (dLcL 3 (dVar 1) (dB (dCall sp__law_less ED0 (dCons (dVar 3) (dCons (dVar 2) dNil)))) (dVar 3)) dNil)) (dCons (dVar 2) dNil)))))
      (dRet (dVar 1))))
def d_law : DS :=
    (dSeq (dSet 1 (dCall sp__law_bag ED0 (dCons (dVar 0) dNil)))
      (dSeq (dSet 2 (dCall sp__law_things ED0 (dCons (dVar 1) dNil)))
      (dSeq (dIfS (dNot (dB (dCall sp__law_each_two ED0 (dCons (dVar 1) (dCons (dVar 2) dNil)))))
      (dRet (dC (.bl false)))
      dNext)
      (dSeq (dSet 3 (dCall sp__law_in_order ED0 (dCons (dVar 2) dNil)))
      (dSeq (dSet 5 (dLcR 4 (dCons (dOp rSubD (dCB rLenD (dCons (dVar 3) dNil)) (dC (.int 1))) dNil) dTYes (dCall sp_apart ED0 (dCons (dCall sp__law_raw ED0 (dCons (dVar 1) (dCons (dOp rIxD (dVar 3) (dVar 4)) dNil))) (dCons (dCall sp__law_raw ED0 (dCons (dVar 1) (dCons (dOp rIxD (dVar 3) (dOp rAddD (dVar 4) (dC (.int 1)))) dNil))) dNil)))))
      (dSeq (dSet 6 (dCall sp__law_apart ED0 (dCons (dOp rIxD (dVar 3) (dC (.int 0))) (dCons (dOp rIxD (dVar 3) (dOp rSubD (dCB rLenD (dCons (dVar 3) dNil)) (dC (.int 1)))) dNil))))
      (dSeq (dIfS (dOr (dB (dOp (rEqv false) (dOp rIxD (dVar 6) (dC (.int 0))) (dC (.int 0)))) (dNot (dB (dCall sp__law_like ED0 (dCons (dCall sp__law_plus ED0 (dCons (dVar 5) dNil)) (dCons (dVar 6) dNil))))))
      (dRet (dC (.bl false)))
      dNext)
      (dSeq (dForT (dTup (dCons (dCB rLenD (dCons (dVar 2) dNil)) (dCons (dCall sp__law_draw ED0 (dCons (dVar 1) (dCons (dC (.int 4)) dNil))) dNil))) (dgName 7) (dIfS (dNot (dB (dCall sp__law_like ED0 (dCons (dCall sp__law_plus ED0 (dCons (dLcL 8 (dSl (dVar 2) dNoPart (dPart (dVar 7))) dTYes (dCall sp__law_raw ED0 (dCons (dVar 1) (dCons (dVar 8) dNil)))) dNil)) (dCons (dCall sp__law_total ED0 (dCons (dSl (dVar 2) dNoPart (dPart (dVar 7))) dNil)) dNil)))))
      (dRet (dC (.bl false)))
      dNext))
      (dSeq (dSet 9 (dTup (dCons (dC (.int 1)) (dCons (dC (.int 1)) dNil))))
      (dSeq (dSet 10 (dSl (dVar 2) dNoPart (dPart (dCall sp__law_draw ED0 (dCons (dVar 1) (dCons (dC (.int 8)) dNil))))))
      (dSeq (dForL (dVar 10) (dgName 8) (dSet 9 (dCall sp__law_mul ED0 (dCons (dVar 9) (dCons (dVar 8) dNil)))))
      (dSeq (dIfS (dNot (dB (dCall sp__law_like ED0 (dCons (dCall sp__law_times ED0 (dCons (dLcL 8 (dVar 10) dTYes (dCall sp__law_raw ED0 (dCons (dVar 1) (dCons (dVar 8) dNil)))) dNil)) (dCons (dVar 9) dNil)))))
      (dRet (dC (.bl false)))
      dNext)
      (dSeq (dForR (dCons (dOp rSubD (dCB rLenD (dCons (dVar 2) dNil)) (dC (.int 1))) dNil) (dgName 4) (dSeq (dPar 8 11 (dCons (dOp rIxD (dVar 2) (dVar 4)) (dCons (dOp rIxD (dVar 2) (dOp rAddD (dVar 4) (dC (.int 1)))) dNil)))
      (dSeq (dSet 9 (dCall sp__law_mul ED0 (dCons (dVar 8) (dCons (dVar 11) dNil))))
      (dSeq (dSet 12 (dCall sp_times ED0 (dCons (dCall sp__law_raw ED0 (dCons (dVar 1) (dCons (dVar 8) dNil))) (dCons (dCall sp__law_raw ED0 (dCons (dVar 1) (dCons (dVar 11) dNil))) dNil))))
      (dSeq (dIfS (dNot (dB (dCall sp__law_like ED0 (dCons (dVar 12) (dCons (dVar 9) dNil)))))
      (dRet (dC (.bl false)))
      dNext)
      (dSeq (dIfS (dAnd (dB (dOp rGtD (dOp rIxD (dVar 11) (dC (.int 0))) (dC (.int 0)))) (dNot (dB (dCall sp__law_like ED0 (dCons (dCall sp_quotient ED0 (dCons (dIf (dB (dOp (rEqv false) (dOp rModD (dVar 4) (dC (.int 2))) (dC (.int 0)))) (dVar 9) (dVar 12)) (dCons (dCall sp__law_raw ED0 (dCons (dVar 1) (dCons (dVar 11) dNil))) dNil))) (dCons (dVar 8) dNil))))))
      (dRet (dC (.bl false)))
      dNext)
      (dSeq (dIfS (dAnd (dB (dOp rGtD (dOp rIxD (dVar 8) (dC (.int 0))) (dC (.int 0)))) (dNot (dB (dCall sp__law_like ED0 (dCons (dCall sp_quotient ED0 (dCons (dCall sp__law_raw ED0 (dCons (dVar 1) (dCons (dVar 11) dNil))) (dCons (dCall sp__law_raw ED0 (dCons (dVar 1) (dCons (dVar 8) dNil))) dNil))) (dCons (dCall sp__law_pair ED0 (dCons (dOp rMulD (dOp rIxD (dVar 11) (dC (.int 0))) (dOp rIxD (dVar 8) (dC (.int 1)))) (dCons (dOp rMulD (dOp rIxD (dVar 11) (dC (.int 1))) (dOp rIxD (dVar 8) (dC (.int 0)))) dNil))) dNil))))))
      (dRet (dC (.bl false)))
      dNext)
      (dSeq (dIfS (dNot (dB (dCall sp__law_like ED0 (dCons (dCall sp_fraction_text ED0 (dCons (dCall sp__law_raw ED0 (dCons (dVar 1) (dCons (dVar 8) dNil))) dNil)) (dCons (dCall sp__law_word ED0 (dCons (dVar 8) dNil)) dNil)))))
      (dRet (dC (.bl false)))
      dNext)
      (dIfS (dAnd (dB (dOp rLeD (dCB rLenD (dCons (dCB rStrD (dCons (dOp rIxD (dVar 8) (dC (.int 0))) dNil)) dNil)) (dC (.int 60)))) (dAnd (dB (dOp rLeD (dCB rLenD (dCons (dCB rStrD (dCons (dOp rIxD (dVar 8) (dC (.int 1))) dNil)) dNil)) (dC (.int 60)))) (dNot (dB (dCall sp__law_like ED0 (dCons (dCall sp_read_fraction ED0 (dCons (dCall sp__law_odd_word ED0 (dCons (dVar 1) (dCons (dVar 8) dNil))) dNil)) (dCons (dVar 8) dNil)))))))
      (dRet (dC (.bl false)))
      dNext)))))))))
      (dRet (dC (.bl true))))))))))))))))
end K00
namespace K00
open PySem PySem.Spec PyProof.Rows L2 DV FR
theorem ty_non {L : LHp} {t : String} : tyD L .non t = (t = "NoneType") := rfl
theorem ty_bl {L : LHp} {t : String} {b : Bool} : tyD L (.bl b) t = (t = "bool") := rfl
theorem ty_int {L : LHp} {t : String} {b : Int} : tyD L (.int b) t = (t = "int") := rfl
theorem ty_str {L : LHp} {t : String} {b : Str} : tyD L (.str b) t = (t = "str") := rfl
theorem ty_tup {L : LHp} {t : String} {b : List D} : tyD L (.tup b) t = (t = "tuple") := rfl
def kitT (a b : String) (r : Bool) : Prop := kitB a b = some r
theorem k01 : kitB "int" "int" = some true := by decide +kernel
theorem k02 : kitB "bool" "int" = some true := by decide +kernel
theorem k03 : kitB "tuple" "int" = some false := by decide +kernel
theorem k04 : kitB "list" "int" = some false := by decide +kernel
theorem k05 : kitB "str" "int" = some false := by decide +kernel
theorem k06 : kitB "NoneType" "int" = some false := by decide +kernel
theorem k07 : kitB "int" "bool" = some false := by decide +kernel
theorem k08 : kitB "bool" "bool" = some true := by decide +kernel
theorem k09 : kitB "tuple" "bool" = some false := by decide +kernel
theorem k10 : kitB "str" "bool" = some false := by decide +kernel
theorem k11 : kitB "int" "tuple" = some false := by decide +kernel
theorem k12 : kitB "bool" "tuple" = some false := by decide +kernel
theorem k13 : kitB "tuple" "tuple" = some true := by decide +kernel
theorem k14 : kitB "str" "tuple" = some false := by decide +kernel
theorem k15 : kitB "int" "list" = some false := by decide +kernel
theorem k16 : kitB "bool" "list" = some false := by decide +kernel
theorem k17 : kitB "tuple" "list" = some false := by decide +kernel
theorem k18 : kitB "str" "list" = some false := by decide +kernel
theorem k19 : kitB "int" "dict" = some false := by decide +kernel
theorem k20 : kitB "bool" "dict" = some false := by decide +kernel
theorem k21 : kitB "str" "dict" = some false := by decide +kernel
theorem k22 : kitB "int" "str" = some false := by decide +kernel
theorem k23 : kitB "bool" "str" = some false := by decide +kernel
theorem k24 : kitB "str" "str" = some true := by decide +kernel
theorem k25 : kitB "tuple" "str" = some false := by decide +kernel
local macro_rules | `(tactic| walk_at "dv") => `(tactic| (simp only [dstart, List.map_cons, List.map_nil, List.length_cons, List.length_nil, Nat.reduceAdd, Nat.reduceSub, List.reduceReplicate, List.cons_append, List.nil_append, List.append_nil,
  dSeq, dNext, dSet, dRet, dRetN, dDrop, dAsg, dgName, dgTup, dgCons, dgNil, dgSub, dPar, dIfS, dVar, dC, dOp, dCons, dNil, dCB, dB, dAnd, dOr, dNot, dAndV, dOrV, dNotV, dIf, dTup, dLst, dCall, dBM, dSl, dNoPart, dPart, dFmt, dBits,
  List.getElem?_cons_succ, List.getElem?_cons_zero, List.set_cons_succ, List.set_cons_zero, Option.some.injEq, exists_eq_left', exists_eq_left, List.cons.injEq, D.int.injEq, D.bl.injEq, D.str.injEq, D.tup.injEq, D.ref.injEq, D.fls.injEq, and_true, true_and, and_assoc,
  if_true, if_false, Bool.false_eq_true, exists_const, exists_eq', exists_and_left, exists_and_right, List.length_singleton, ite_true, ite_false, Bool.not_true, Bool.not_false, reduceCtorEq, false_and, exists_false, Bool.false_xor, Bool.true_xor,
  ty_non, ty_bl, ty_int, ty_str, ty_tup, k01, k02, k03, k04, k05, k06, k07, k08, k09, k10, k11, k12, k13, k14, k15, k16, k17, k18, k19, k20, k21, k22, k23, k24, k25,
  rI2, DV.rIxD, rAddD, rLenD, rIsiD, rI2C, rEqv, rSlD, rIntD, rStrD, rAbsD, rIsND, rAppD, rPopD, rInsD, rFindD, tyM]))
theorem rd_is_number (ds : List D) (L : LHp) (Q : DK) (E : XD) (h : sp_is_number ds L Q E) : d_is_number { nx := fun _ L' => Q .non L', rt := Q } (dstart ["value"] ds) L := by
  obtain ⟨d, t, rfl, ht, q⟩ := h
  unfold d_is_number
  walk_at "dv"
  cases d with
  | non => cases (show t = _ from ht); walk_at "dv"; exact q
  | bl b => cases (show t = _ from ht); walk_at "dv"; exact q
  | int i => cases (show t = _ from ht); walk_at "dv"; exact q
  | str z => cases (show t = _ from ht); walk_at "dv"; exact q
  | tup xs => cases (show t = _ from ht); walk_at "dv"; exact q
  | ref a =>
    obtain ⟨e, rfl⟩ := (show (∃ ds, LRd L a ds) ∧ t = "list" from ht)
    refine ⟨"list", ⟨e, rfl⟩, ?_⟩
    walk_at "dv"
    exact q
  | ty n => exact (show False from ht).elim
  | fls n => exact (show False from ht).elim
theorem len_is_number (ds : List D) (L : LHp) (Q : DK) (E : XD) (h : sp_is_number ds L Q E) : ds.length = 1 := by obtain ⟨d, t, rfl, _⟩ := h; rfl
theorem rd_is_fraction (ds : List D) (L : LHp) (Q : DK) (E : XD) (h : sp_is_fraction ds L Q E) : d_is_fraction { nx := fun _ L' => Q .non L', rt := Q } (dstart ["value", "top", "bottom"] ds) L := by
  obtain ⟨d, B, q, rfl, r, hq⟩ := h
  unfold d_is_fraction
  walk_at "dv"
  cases r with
  | int n hB h0 h1 =>
    refine ⟨.int n, "int", rfl, rfl, ?_⟩
    walk_at "dv"
    rw [decide_eq_true h0]
    exact hq
  | pair t b h0 h1 h2 h3 =>
    refine ⟨_, "tuple", rfl, rfl, false, rfl, ?_⟩
    walk_at "dv"
    refine ⟨.int t, "int", rfl, rfl, ?_⟩
    walk_at "dv"
    refine ⟨.int b, "int", rfl, rfl, ?_⟩
    walk_at "dv"
    rw [decide_eq_true h0, decide_eq_true (show 1 ≤ b by omega)]
    exact iteT hq
theorem len_is_fraction (ds : List D) (L : LHp) (Q : DK) (E : XD) (h : sp_is_fraction ds L Q E) : ds.length = 1 := by obtain ⟨d, t, q, rfl, _⟩ := h; rfl
theorem rd__check (ds : List D) (L : LHp) (Q : DK) (E : XD) (h : sp__check ds L Q E) : d__check { nx := fun _ L' => Q .non L', rt := Q } (dstart ["values", "value"] ds) L := by
  obtain ⟨vs, B, qs, rfl, r, hq⟩ := h
  unfold d__check dForT
  walk_at "dv"
  refine ⟨fun i τ L' => L' = L ∧ ∃ y, τ = [some (.tup vs), y], ⟨rfl, _, rfl⟩, fun i d τ' L' hd ⟨e, y, ey⟩ => ?_, fun τ' L' ⟨e, y, ey⟩ => by rw [e]; exact hq⟩
  subst e ey
  obtain ⟨q, _, rq⟩ := r.get hd
  walk_at "dv"
  refine ⟨d, B, q, rfl, rq, true, rfl, ?_⟩
  walk_at "dv"
theorem len__check (ds : List D) (L : LHp) (Q : DK) (E : XD) (h : sp__check ds L Q E) : ds.length = 1 := by obtain ⟨d, t, q, rfl, _⟩ := h; rfl
theorem small_div {t b : Int} {B : Nat} (h1 : 0 < b) (h3 : b.natAbs < 2 ^ B) (hB : B ≤ 8000) : CDivW t b := wide_div (b := B + 1) h1 (Nat.lt_of_lt_of_le h3 (Nat.pow_le_pow_right (by decide) (by omega))) (by omega) (by omega)
theorem rd__reduced (ds : List D) (L : LHp) (Q : DK) (E : XD) (h : sp__reduced ds L Q E) : d__reduced { nx := fun _ L' => Q .non L', rt := Q } (dstart ["value", "top", "bottom", "common"] ds) L := by
  obtain ⟨d, q, rfl, r, hq⟩ := h
  unfold d__reduced
  walk_at "dv"
  cases r with
  | int n hB h0 h1 =>
    walk_at "dv"
    exact ⟨by show 2 ≤ sizeLine; decide, hq⟩
  | pair t b h0 h1 h2 h3 =>
    walk_at "dv"
    have hg := gcd_pos t b h1
    have hd : CDivW t ((Nat.gcd t.natAbs b.natAbs : Nat) : Int) := small_div (B := 8000) hg (Nat.lt_of_le_of_lt (by simpa using gcd_le t b h1) h3) (by omega)
    refine ⟨hd, hd, by show 2 ≤ sizeLine; decide, ?_⟩
    rw [low_num t b h1, low_den t b h1]
    exact hq
theorem len__reduced (ds : List D) (L : LHp) (Q : DK) (E : XD) (h : sp__reduced ds L Q E) : ds.length = 1 := by obtain ⟨d, q, rfl, _⟩ := h; rfl
theorem rd_lowest (ds : List D) (L : LHp) (Q : DK) (E : XD) (h : sp_lowest ds L Q E) : d_lowest { nx := fun _ L' => Q .non L', rt := Q } (dstart ["value"] ds) L := by
  obtain ⟨d, q, rfl, r, hq⟩ := h
  unfold d_lowest
  walk_at "dv"
  refine ⟨by decide, [d], 8000, [q], rfl, .cons r .nil, ?_⟩
  exact ⟨d, q, rfl, r, hq⟩
theorem len_lowest (ds : List D) (L : LHp) (Q : DK) (E : XD) (h : sp_lowest ds L Q E) : ds.length = 1 := by obtain ⟨d, q, rfl, _⟩ := h; rfl
/-- products of small numbers -/
theorem mulW {i j : Int} {A B : Nat} (ha : i.natAbs < 2 ^ A) (hb : j.natAbs < 2 ^ B) (h : A + B ≤ 900000) : CMulU i j := .inl (wide_mul (a := A + 1) (b := B + 1) (Nat.lt_of_lt_of_le ha (Nat.pow_le_pow_right (by decide) (by omega))) (Nat.lt_of_lt_of_le hb (Nat.pow_le_pow_right (by decide) (by omega))) (by omega) (by omega) (by omega))
theorem mul_lt {i j : Int} {A B : Nat} (ha : i.natAbs < 2 ^ A) (hb : j.natAbs < 2 ^ B) : (i * j).natAbs < 2 ^ (A + B) := wide_lt ha hb
theorem sub_lt {i j : Int} {B : Nat} (ha : i.natAbs < 2 ^ B) (hb : j.natAbs < 2 ^ B) : (i - j).natAbs < 2 ^ (B + 1) := by rw [Nat.pow_succ]; omega
theorem add_lt {i j : Int} {B : Nat} (ha : i.natAbs < 2 ^ B) (hb : j.natAbs < 2 ^ B) : (i + j).natAbs < 2 ^ (B + 1) := by rw [Nat.pow_succ]; omega
theorem two_raw {a b : D} {B : Nat} {p q : Rat} (ra : Raw B a p) (rb : Raw B b q) : RawL B [a, b] [p, q] := .cons ra (.cons rb .nil)
theorem lt_cross (p q : Rat) : (decide (p.num * (q.den : Int) < q.num * (p.den : Int))) = decide (p < q) := by
  rw [decide_eq_decide]
  exact (Rat.lt_iff p q).symm
theorem abs_cross (p q : Rat) : ((if p.num * (q.den : Int) - q.num * (p.den : Int) < 0 then -(p.num * (q.den : Int) - q.num * (p.den : Int)) else p.num * (q.den : Int) - q.num * (p.den : Int) : Int) : Rat) / (((p.den : Int) * (q.den : Int) : Int) : Rat) = rabs (p - q) := by
  have hp := ne0 (den_pos p)
  have hq := ne0 (den_pos q)
  have ep := div_self p
  have eq := div_self q
  have ed : p - q = ((p.num * (q.den : Int) - q.num * (p.den : Int) : Int) : Rat) / (((p.den : Int) * (q.den : Int) : Int) : Rat) := by
    rw [Rat.intCast_sub, Rat.intCast_mul, Rat.intCast_mul, Rat.intCast_mul]
    conv => lhs; rw [← ep, ← eq]
    grind
  have hpos : (0 : Rat) < (((p.den : Int) * (q.den : Int) : Int) : Rat) := Rat.intCast_pos.mpr (Int.mul_pos (den_pos p) (den_pos q))
  unfold rabs
  rw [ed]
  generalize (p.num * (q.den : Int) - q.num * (p.den : Int)) = n at *
  generalize ((p.den : Int) * (q.den : Int)) = m at *
  have hiff : ((n : Rat) / (m : Rat) < 0) ↔ n < 0 := by
    rw [Rat.div_lt_iff hpos, Rat.zero_mul]
    exact Rat.intCast_lt_intCast (b := 0)
  by_cases hn : n < 0
  · rw [if_pos hn, if_pos (hiff.mpr hn), Rat.intCast_neg]
    grind
  · rw [if_neg hn, if_neg (fun z => hn (hiff.mp z))]
theorem nums_raw {B : Nat} {p q : Rat} (hp : Bd B p) (hq : Bd B q) (hB : 2 * B + 1 ≤ 8000) : Raw 8000 (.tup [.int (if p.num * (q.den : Int) - q.num * (p.den : Int) < 0 then -(p.num * (q.den : Int) - q.num * (p.den : Int)) else p.num * (q.den : Int) - q.num * (p.den : Int)), .int ((p.den : Int) * (q.den : Int))]) (rabs (p - q)) := by
  rw [← abs_cross]
  have l1 : (p.num * (q.den : Int)).natAbs < 2 ^ (B + B) := mul_lt hp.top hq.botI
  have l2 : (q.num * (p.den : Int)).natAbs < 2 ^ (B + B) := mul_lt hq.top hp.botI
  have l3 := sub_lt l1 l2
  have l4 : ((p.den : Int) * (q.den : Int)).natAbs < 2 ^ (B + B) := mul_lt hp.botI hq.botI
  have e : 2 ^ (B + B + 1) ≤ 2 ^ 8000 := Nat.pow_le_pow_right (by decide) (by omega)
  have e2 : 2 ^ (B + B) ≤ 2 ^ 8000 := Nat.pow_le_pow_right (by decide) (by omega)
  have hm : 0 < (p.den : Int) * (q.den : Int) := Int.mul_pos (den_pos p) (den_pos q)
  refine .pair _ _ ?_ hm ?_ (Nat.lt_of_lt_of_le l4 e2)
  · split <;> omega
  · refine Nat.lt_of_lt_of_le ?_ e
    split <;> omega
theorem rd_apart (ds : List D) (L : LHp) (Q : DK) (E : XD) (h : sp_apart ds L Q E) : d_apart { nx := fun _ L' => Q .non L', rt := Q } (dstart ["one", "other", "top", "bottom", "over", "under"] ds) L := by
  obtain ⟨a, b, B, p, q, rfl, ra, rb, hB, hQ⟩ := h
  have hp := ra.bd
  have hq := rb.bd
  unfold d_apart
  walk_at "dv"
  refine ⟨by decide, [a, b], B, [p, q], rfl, two_raw ra rb, ?_⟩
  walk_at "dv"
  refine ⟨a, p, rfl, ra.mono (by omega), ?_⟩
  unfold fr
  walk_at "dv"
  refine ⟨b, q, rfl, rb.mono (by omega), ?_⟩
  unfold fr
  walk_at "dv"
  refine ⟨mulW hp.top hq.botI (by omega), mulW hq.top hp.botI (by omega), mulW hp.botI hq.botI (by omega), by decide, ?_⟩
  exact ⟨_, _, rfl, nums_raw hp hq hB, hQ⟩
theorem len_apart (ds : List D) (L : LHp) (Q : DK) (E : XD) (h : sp_apart ds L Q E) : ds.length = 2 := by obtain ⟨a, b, B, p, q, rfl, _⟩ := h; rfl
theorem rd_is_less (ds : List D) (L : LHp) (Q : DK) (E : XD) (h : sp_is_less ds L Q E) : d_is_less { nx := fun _ L' => Q .non L', rt := Q } (dstart ["one", "other", "top", "bottom", "over", "under"] ds) L := by
  obtain ⟨a, b, B, p, q, rfl, ra, rb, hB, hQ⟩ := h
  have hp := ra.bd
  have hq := rb.bd
  unfold d_is_less
  walk_at "dv"
  refine ⟨by decide, [a, b], B, [p, q], rfl, two_raw ra rb, ?_⟩
  walk_at "dv"
  refine ⟨a, p, rfl, ra.mono (by omega), ?_⟩
  unfold fr
  walk_at "dv"
  refine ⟨b, q, rfl, rb.mono (by omega), ?_⟩
  unfold fr
  walk_at "dv"
  refine ⟨mulW hp.top hq.botI (by omega), mulW hq.top hp.botI (by omega), ?_⟩
  rw [lt_cross]
  exact hQ
theorem len_is_less (ds : List D) (L : LHp) (Q : DK) (E : XD) (h : sp_is_less ds L Q E) : ds.length = 2 := by obtain ⟨a, b, B, p, q, rfl, _⟩ := h; rfl
theorem num_pos {q : Rat} (h0 : 0 ≤ q) (h : q ≠ 0) : 0 < q.num := by
  have h1 := Rat.num_nonneg.mpr h0
  have h2 : q.num ≠ 0 := fun e => h (Rat.num_eq_zero.mp e)
  omega
theorem div_cross {p q : Rat} (hq : 0 < q.num) : ((p.num * (q.den : Int) : Int) : Rat) / (((p.den : Int) * q.num : Int) : Rat) = p / q := by
  have hp := ne0 (den_pos p)
  have hd := ne0 (den_pos q)
  have hn := ne0 hq
  have ep := div_self p
  have eq := div_self q
  rw [Rat.intCast_mul, Rat.intCast_mul]
  conv => rhs; rw [← ep, ← eq]
  grind
theorem rd_quotient (ds : List D) (L : LHp) (Q : DK) (E : XD) (h : sp_quotient ds L Q E) : d_quotient { nx := fun _ L' => Q .non L', rt := Q } (dstart ["one", "other", "top", "bottom", "over", "under"] ds) L := by
  obtain ⟨a, b, B, p, q, rfl, ra, rb, hB, h0, hQ⟩ := h
  have hp := ra.bd
  have hq := rb.bd
  have hn := num_pos hq.nn h0
  unfold d_quotient
  walk_at "dv"
  refine ⟨by decide, [a, b], B, [p, q], rfl, two_raw ra rb, ?_⟩
  walk_at "dv"
  refine ⟨a, p, rfl, ra.mono (by omega), ?_⟩
  unfold fr
  walk_at "dv"
  refine ⟨b, q, rfl, rb.mono (by omega), ?_⟩
  unfold fr
  walk_at "dv"
  rw [decide_eq_false (show ¬ q.num = 0 by omega)]
  refine iteF ⟨mulW hp.top hq.botI (by omega), mulW hp.botI hq.top (by omega), by decide, ?_⟩
  refine ⟨_, _, rfl, ?_, hQ⟩
  rw [← div_cross hn]
  have e2 : 2 ^ (B + B) ≤ 2 ^ 8000 := Nat.pow_le_pow_right (by decide) (by omega)
  exact .pair _ _ (Int.mul_nonneg hp.num0 (by omega)) (Int.mul_pos (den_pos p) hn) (Nat.lt_of_lt_of_le (mul_lt hp.top hq.botI) e2) (Nat.lt_of_lt_of_le (mul_lt hp.botI hq.top) e2)
theorem len_quotient (ds : List D) (L : LHp) (Q : DK) (E : XD) (h : sp_quotient ds L Q E) : ds.length = 2 := by obtain ⟨a, b, B, p, q, rfl, _⟩ := h; rfl
theorem plus_step {t b o u : Int} (hb : 0 < b) (hu : 0 < u) : ((t * (u / ((Nat.gcd b.natAbs u.natAbs : Nat) : Int)) + o * (b / ((Nat.gcd b.natAbs u.natAbs : Nat) : Int)) : Int) : Rat) / ((b / ((Nat.gcd b.natAbs u.natAbs : Nat) : Int) * u : Int) : Rat) = (t : Rat) / (b : Rat) + (o : Rat) / (u : Rat)
    ∧ 0 < b / ((Nat.gcd b.natAbs u.natAbs : Nat) : Int) ∧ 0 < u / ((Nat.gcd b.natAbs u.natAbs : Nat) : Int) := by
  have hg := gcd_pos b u hu
  have h1 : ((Nat.gcd b.natAbs u.natAbs : Nat) : Int) ∣ b := Int.natAbs_dvd_natAbs.mp (by simpa using Nat.gcd_dvd_left b.natAbs u.natAbs)
  have h2 : ((Nat.gcd b.natAbs u.natAbs : Nat) : Int) ∣ u := Int.natAbs_dvd_natAbs.mp (by simpa using Nat.gcd_dvd_right b.natAbs u.natAbs)
  generalize ((Nat.gcd b.natAbs u.natAbs : Nat) : Int) = g at *
  obtain ⟨b', rfl⟩ := h1
  obtain ⟨u', rfl⟩ := h2
  have pb : 0 < b' := by rw [Int.mul_comm] at hb; exact Int.pos_of_mul_pos_left hb hg
  have pu : 0 < u' := by rw [Int.mul_comm] at hu; exact Int.pos_of_mul_pos_left hu hg
  rw [Int.mul_ediv_cancel_left b' (by omega), Int.mul_ediv_cancel_left u' (by omega)]
  refine ⟨?_, pb, pu⟩
  have n1 := ne0 hg
  have n2 := ne0 pb
  have n3 := ne0 pu
  rw [Rat.intCast_add, Rat.intCast_mul, Rat.intCast_mul, Rat.intCast_mul, Rat.intCast_mul, Rat.intCast_mul]
  grind
theorem rd_plus (ds : List D) (L : LHp) (Q : DK) (E : XD) (h : spi_plus ds L Q E) : d_plus { nx := fun _ L' => Q .non L', rt := Q } (dstart ["fractions", "top", "bottom", "value", "over", "under", "common"] ds) L := by
  obtain ⟨vs, B, qs, rfl, r, hB, hQ⟩ := h
  unfold d_plus dForT
  walk_at "dv"
  refine ⟨vs, B, qs, rfl, r, ?_⟩
  refine ⟨fun i τ L' => L' = L ∧ ∃ t b y3 y4 y5 y6, τ = [some (.tup vs), some (.int t), some (.int b), y3, y4, y5, y6] ∧ 0 ≤ t ∧ 0 < b ∧ (t : Rat) / (b : Rat) = rsum (qs.take i) ∧ t.natAbs < 2 ^ ((B + 1) * i + 1) ∧ b.natAbs < 2 ^ ((B + 1) * i + 1), ⟨rfl, 0, 1, _, _, _, _, rfl, by omega, by omega, ?_, by simp, by simp⟩, fun i d τ' L' hd ⟨e, t, b, y3, y4, y5, y6, ey, h0, h1, hs, s1, s2⟩ => ?_, fun τ' L' ⟨e, t, b, y3, y4, y5, y6, ey, h0, h1, hs, s1, s2⟩ => ?_⟩
  · rw [List.take_zero]
    show ((0 : Int) : Rat) / ((1 : Int) : Rat) = 0
    rw [Rat.intCast_zero, Rat.div_def, Rat.zero_mul]
  · subst e ey
    obtain ⟨q, gq, rq⟩ := r.get hd
    have hl : i < vs.length := (List.getElem?_eq_some_iff.mp hd).1
    have hq := rq.bd
    have hmul : (B + 1) * (i + 1) = (B + 1) * i + (B + 1) := Nat.mul_succ _ _
    have hle : (B + 1) * (i + 1) ≤ (B + 1) * vs.length := Nat.mul_le_mul_left _ hl
    walk_at "dv"
    refine ⟨d, q, rfl, rq.mono (by omega), ?_⟩
    unfold fr
    walk_at "dv"
    obtain ⟨es, pb, pu⟩ := plus_step (t := t) (b := b) (o := q.num) (u := q.den) h1 (den_pos q)
    have hg := gcd_pos b q.den (den_pos q)
    have gl : ((Nat.gcd b.natAbs ((q.den : Nat) : Int).natAbs : Nat) : Int).natAbs < 2 ^ B := Nat.lt_of_le_of_lt (by simpa using gcd_le b q.den (den_pos q)) hq.bot
    have hc : ∀ z, CDivW z ((Nat.gcd b.natAbs ((q.den : Nat) : Int).natAbs : Nat) : Int) := fun z => small_div hg gl (by omega)
    have b1 : (b / ((Nat.gcd b.natAbs ((q.den : Nat) : Int).natAbs : Nat) : Int)).natAbs < 2 ^ ((B + 1) * i + 1) := Nat.lt_of_le_of_lt (Int.natAbs_ediv_le_natAbs _ _) s2
    have u1 : (((q.den : Nat) : Int) / ((Nat.gcd b.natAbs ((q.den : Nat) : Int).natAbs : Nat) : Int)).natAbs < 2 ^ B := Nat.lt_of_le_of_lt (Int.natAbs_ediv_le_natAbs _ _) hq.botI
    refine ⟨hc _, mulW s1 u1 (by omega), hc _, mulW hq.top b1 (by omega), hc _, mulW b1 hq.botI (by omega), ?_⟩
    refine ⟨?_, Int.mul_pos pb (den_pos q), ?_, ?_, ?_⟩
    · exact Int.add_nonneg (Int.mul_nonneg h0 (by omega)) (Int.mul_nonneg hq.num0 (by omega))
    · rw [take_snoc gq, rsum_snoc, ← hs, es, div_self]
    · have a1 := mul_lt s1 u1
      have a2 := mul_lt hq.top b1
      rw [Nat.add_comm B] at a2
      have a3 := add_lt a1 a2
      rw [hmul]
      exact Nat.lt_of_lt_of_le a3 (Nat.pow_le_pow_right (by decide) (by omega))
    · have a1 := mul_lt b1 hq.botI
      rw [hmul]
      exact Nat.lt_of_lt_of_le a1 (Nat.pow_le_pow_right (by decide) (by omega))
  · subst e ey
    walk_at "dv"
    have e2 : 2 ^ ((B + 1) * vs.length + 1) ≤ 2 ^ 8000 := Nat.pow_le_pow_right (by decide) (by omega)
    refine ⟨by decide, _, _, rfl, .pair t b h0 h1 (Nat.lt_of_lt_of_le s1 e2) (Nat.lt_of_lt_of_le s2 e2), ?_⟩
    rw [hs, r.length, List.take_length]
    exact hQ
theorem mul_frac {a b c d : Int} (hb : 0 < b) (hd : 0 < d) : ((a * c : Int) : Rat) / ((b * d : Int) : Rat) = (a : Rat) / (b : Rat) * ((c : Rat) / (d : Rat)) := by
  have n1 := ne0 hb
  have n2 := ne0 hd
  rw [Rat.intCast_mul, Rat.intCast_mul]
  grind
theorem mul_raw {B C : Nat} {p q : Rat} (hp : Bd B p) (hq : Bd C q) : Raw (B + C) (.tup [.int (p.num * q.num), .int ((p.den : Int) * (q.den : Int))]) (p * q) := by
  have e := mul_frac (a := p.num) (c := q.num) (den_pos p) (den_pos q)
  rw [div_self, div_self] at e
  rw [← e]
  exact .pair _ _ (Int.mul_nonneg hp.num0 hq.num0) (Int.mul_pos (den_pos p) (den_pos q)) (mul_lt hp.top hq.top) (mul_lt hp.botI hq.botI)
theorem bd_one : Bd 1 1 := ⟨by decide, by decide, by decide⟩
theorem rd_times (ds : List D) (L : LHp) (Q : DK) (E : XD) (h : spi_times ds L Q E) : d_times { nx := fun _ L' => Q .non L', rt := Q } (dstart ["fractions", "product", "value", "over", "under"] ds) L := by
  obtain ⟨vs, B, qs, rfl, r, hB, hQ⟩ := h
  unfold d_times dForT
  walk_at "dv"
  refine ⟨vs, B, qs, rfl, r, by decide, ?_⟩
  refine ⟨fun i τ L' => L' = L ∧ ∃ y3 y4 y5, τ = [some (.tup vs), some (fr (rprod (qs.take i))), y3, y4, y5] ∧ Bd ((B + 1) * i + 1) (rprod (qs.take i)), ⟨rfl, _, _, _, rfl, bd_one⟩, fun i d τ' L' hd ⟨e, y3, y4, y5, ey, hs⟩ => ?_, fun τ' L' ⟨e, y3, y4, y5, ey, hs⟩ => ?_⟩
  · subst e ey
    obtain ⟨q, gq, rq⟩ := r.get hd
    have hl : i < vs.length := (List.getElem?_eq_some_iff.mp hd).1
    have hq := rq.bd
    have hmul : (B + 1) * (i + 1) = (B + 1) * i + (B + 1) := Nat.mul_succ _ _
    have hle : (B + 1) * (i + 1) ≤ (B + 1) * vs.length := Nat.mul_le_mul_left _ hl
    walk_at "dv"
    refine ⟨d, q, rfl, rq.mono (by omega), ?_⟩
    unfold fr
    walk_at "dv"
    have hp := (mul_raw hs hq)
    refine ⟨_, rfl, mulW hs.top hq.top (by omega), _, rfl, mulW hs.botI hq.botI (by omega), by decide, _, _, rfl, hp.mono (by omega), ?_⟩
    rw [take_snoc gq, rprod_snoc]
    exact ⟨rfl, rfl, (hp.bd).mono (by omega)⟩
  · subst e ey
    walk_at "dv"
    rw [r.length, List.take_length]
    exact hQ
end K00
namespace K00
open PySem PySem.Spec PyProof.Rows L2 DV FR
local macro_rules | `(tactic| walk_at "dv") => `(tactic| (simp only [dstart, List.map_cons, List.map_nil, List.length_cons, List.length_nil, Nat.reduceAdd, Nat.reduceSub, List.reduceReplicate, List.cons_append, List.nil_append, List.append_nil,
  dSeq, dNext, dSet, dRet, dRetN, dDrop, dAsg, dgName, dgTup, dgCons, dgNil, dgSub, dPar, dIfS, dVar, dC, dOp, dCons, dNil, dCB, dB, dAnd, dOr, dNot, dAndV, dOrV, dNotV, dIf, dTup, dLst, dCall, dBM, dSl, dNoPart, dPart, dFmt, dBits,
  List.getElem?_cons_succ, List.getElem?_cons_zero, List.set_cons_succ, List.set_cons_zero, Option.some.injEq, exists_eq_left', exists_eq_left, List.cons.injEq, D.int.injEq, D.bl.injEq, D.str.injEq, D.tup.injEq, D.ref.injEq, D.fls.injEq, and_true, true_and, and_assoc,
  if_true, if_false, Bool.false_eq_true, exists_const, exists_eq', exists_and_left, exists_and_right, List.length_singleton, ite_true, ite_false, Bool.not_true, Bool.not_false, reduceCtorEq, false_and, exists_false, Bool.false_xor, Bool.true_xor,
  ty_non, ty_bl, ty_int, ty_str, ty_tup, k01, k02, k03, k04, k05, k06, k07, k08, k09, k10, k11, k12, k13, k14, k15, k16, k17, k18, k19, k20, k21, k22, k23, k24, k25,
  rI2, DV.rIxD, rAddD, rLenD, rIsiD, rI2C, rEqv, rSlD, rIntD, rStrD, rAbsD, rIsND, rAppD, rPopD, rInsD, rFindD, tyM]))
/-! ### texts of numbers -/
theorem tl_numS (n : Nat) : TL.tl (numS n) = TL.numL n := TL.tl_num n
theorem len_numS (n : Nat) : (numS n).length = (TL.numL n).length := by rw [TL.len_tl, tl_numS]
theorem numL_head : ∀ n : Nat, 0 < n → ∃ c r, TL.numL n = c :: r ∧ 49 ≤ c ∧ c ≤ 57 := by
  intro n
  induction n using Nat.strongRecOn with
  | _ n ih =>
    intro hn
    by_cases h : n < 10
    · exact ⟨48 + n, [], TL.numL_lt h, by omega, by omega⟩
    · obtain ⟨c, r, e, h1, h2⟩ := ih (n / 10) (by omega) (by omega)
      exact ⟨c, r ++ [48 + n % 10], by rw [TL.numL_step (by omega), e]; rfl, h1, h2⟩
theorem numS_len {n : Nat} (h : n < 10 ^ 60) : (numS n).length ≤ 60 := by rw [len_numS]; exact TL.numL_len (by decide) h
theorem numS_zero : numS (0 : Nat) = PySem.Str.ofString "0" := by decide +kernel
theorem numS_inj {n m : Nat} (h : numS n = numS m) : n = m := TL.numL_inj (by rw [← tl_numS, ← tl_numS, h])
theorem numS_eq0 (n : Nat) : (numS n = PySem.Str.ofString "0") ↔ n = 0 := by
  rw [← numS_zero]
  exact ⟨fun h => numS_inj h, fun h => by rw [h]⟩
theorem numS_ne (n : Nat) : numS n ≠ PySem.Str.ofString "" := fun h => by
  have e : TL.tl (numS n) = [] := by rw [h]; decide +kernel
  rw [tl_numS] at e
  exact TL.numL_ne n e
theorem sz {n : Nat} (h : n ≤ 60000) : n ≤ sizeLine := Nat.le_trans h (by decide)
theorem ten_tl : (PySem.Str.ofString "0123456789").cps.toList = [48, 49, 50, 51, 52, 53, 54, 55, 56, 57] := by decide +kernel
theorem zero_one : PySem.Str.ofString "0" = ⟨#[48]⟩ := by decide +kernel
theorem rd__is_count (ds : List D) (L : LHp) (Q : DK) (E : XD) (h : sp__is_count ds L Q E) : d__is_count { nx := fun _ L' => Q .non L', rt := Q } (dstart ["text", "zero", "sign"] ds) L := by
  obtain ⟨n, zero, rfl, hn, hQ⟩ := h
  have hl := numS_len hn
  unfold d__is_count dLcS
  walk_at "dv"
  by_cases h0 : n = 0
  · rw [decide_eq_true ((numS_eq0 n).mpr h0)]
    simp only [if_pos h0] at hQ
    exact iteT (hQ L .refl)
  · rw [decide_eq_false (fun z => h0 ((numS_eq0 n).mp z)), decide_eq_false (numS_ne n)]
    simp only [if_neg h0] at hQ
    refine iteF (iteF ⟨sz (by omega), ?_⟩)
    rw [decide_eq_false (show ¬ (60 : Int) < ((numS n).length : Int) by omega)]
    obtain ⟨c, r, e, c1, c2⟩ := numL_head n (by omega)
    refine iteF ⟨sz (by omega), c, ?_, ?_⟩
    · have et : (numS n).cps.toList = c :: r := by rw [← e]; exact tl_numS n
      rw [et]; exact at_gen (j := 0) rfl rfl
    · have ne : ¬ ((⟨#[c]⟩ : Str) = PySem.Str.ofString "0") := by
        rw [zero_one]
        intro z
        have z1 := congrArg (fun x : Str => x.cps.toList) z
        have z2 : [c] = [48] := z1
        injection z2 with z3 _
        omega
      rw [decide_eq_false ne]
      refine iteF fun E hE => ?_
      refine ⟨fun i L' => L' = lupd L E (.lst ((List.replicate i true).map .bl)), rfl, fun i c L' hc hL' => ?_, fun L' hL' => ?_⟩
      · subst hL'
        unfold lcTurn dTYes
        walk_at "dv"
        have hi : i < (numS n).cps.size := (Array.getElem?_eq_some_iff.mp hc).1
        refine ⟨c, rfl, _, lupd_same, ?_, ?_⟩
        · rw [List.length_map, List.length_replicate]
          exact Nat.lt_of_lt_of_le hi (sz (show (numS n).length ≤ 60000 by omega))
        · have hm : c ∈ TL.numL n := by
            rw [← tl_numS]
            exact List.mem_of_getElem? (i := i) (by rw [← hc]; simp)
          have hd := TL.numL_digits n c hm
          have hin : c ∈ (PySem.Str.ofString "0123456789").cps.toList := by
            rw [ten_tl]
            simp only [List.mem_cons, List.not_mem_nil, or_false]
            omega
          rw [lupd_lupd, decide_eq_true hin, List.replicate_succ', List.map_append]
          rfl
      · subst hL'
        refine ⟨_, .inl lupd_same, ?_⟩
        have ea : ((List.replicate (numS n).cps.size true).all id) = true := by
          rw [List.all_eq_true]
          intro b hb
          rw [(List.mem_replicate.mp hb).2]
          rfl
        rw [ea]
        exact hQ _ (Gr.new hE)
theorem len__is_count (ds : List D) (L : LHp) (Q : DK) (E : XD) (h : sp__is_count ds L Q E) : ds.length = 2 := by obtain ⟨n, zero, rfl, _⟩ := h; rfl

theorem find_slash (t b : Nat) : Txt.find (numS t ++ slash ++ numS b) (PySem.Str.ofString "/") = ((numS t).length : Int) := by
  have es : (PySem.Str.ofString "/") = ⟨#[47]⟩ := by decide +kernel
  have et : (numS t ++ slash ++ numS b).cps.toList = TL.numL t ++ 47 :: TL.numL b := by
    show TL.tl _ = _
    rw [TL.tl_append, TL.tl_append, tl_numS, tl_numS]
    have : TL.tl slash = [47] := by decide +kernel
    rw [this, List.append_assoc]
    rfl
  have key : ∀ i : Nat, (numS t ++ slash ++ numS b).cps.toList[i]? = some 47 → i = (numS t).length := by
    intro i hi
    rw [et] at hi
    rw [len_numS]
    by_cases h1 : i < (TL.numL t).length
    · rw [List.getElem?_append_left h1] at hi
      exact absurd (List.mem_of_getElem? hi) (TL.numL_free (Or.inl (by decide)))
    · rw [List.getElem?_append_right (by omega)] at hi
      cases e : i - (TL.numL t).length with
      | zero => omega
      | succ k =>
        rw [e, List.getElem?_cons_succ] at hi
        exact absurd (List.mem_of_getElem? hi) (TL.numL_free (Or.inl (by decide)))
  rw [es]
  unfold Txt.find
  have hne : (!(Builtin.Str.occurrences (numS t ++ slash ++ numS b) ⟨#[47]⟩ 0 (numS t ++ slash ++ numS b).length 1).isEmpty) = true := by
    rw [PySem.StrLaws.found_one, et]
    simp
  cases e : Builtin.Str.occurrences (numS t ++ slash ++ numS b) ⟨#[47]⟩ 0 (numS t ++ slash ++ numS b).length 1 with
  | nil => rw [e] at hne; simp at hne
  | cons i r =>
    have h2 := PySem.StrLaws.occ_spec (numS t ++ slash ++ numS b) ⟨#[47]⟩ 0 (numS t ++ slash ++ numS b).length 1 i (by rw [e]; exact List.mem_cons_self)
    have h3 := (PySem.StrLaws.subAt_one (numS t ++ slash ++ numS b) 47 i).mp h2
    rw [key i h3]
theorem find_none (t : Nat) : Txt.find (numS t) (PySem.Str.ofString "/") = -1 := by
  have es : (PySem.Str.ofString "/") = ⟨#[47]⟩ := by decide +kernel
  rw [es]
  unfold Txt.find
  have hne : (!(Builtin.Str.occurrences (numS t) ⟨#[47]⟩ 0 (numS t).length 1).isEmpty) = false := by
    rw [PySem.StrLaws.found_one]
    refine decide_eq_false fun h => ?_
    have h2 : 47 ∈ TL.numL t := by rw [← tl_numS]; exact h
    exact TL.numL_free (Or.inl (by decide)) h2
  cases e : Builtin.Str.occurrences (numS t) ⟨#[47]⟩ 0 (numS t).length 1 with
  | nil => rfl
  | cons i r => rw [e] at hne; simp at hne
theorem sIx_len (n : Nat) : HT.sIx n n none = n := HT.sIx_none n n
theorem cut_left (x y : Str) : cutS (x ++ y) none (some (x.length : Int)) = x := by
  have hl : (x ++ y).length = x.length + y.length := by rw [TL.len_tl, TL.tl_append, List.length_append, ← TL.len_tl, ← TL.len_tl]
  refine TL.ext_tl ?_
  unfold cutS
  rw [TL.tl_mk, HT.sIx_none, HT.sIx_nat, hl, Nat.min_eq_left (by omega), Nat.sub_zero, List.drop_zero]
  show (TL.tl (x ++ y)).take _ = _
  rw [TL.tl_append, TL.len_tl x, List.take_left']
  rfl
theorem cut_right (x y : Str) (k : Nat) (hk : x.length = k) : cutS (x ++ y) (some (k : Int)) none = y := by
  have hl : (x ++ y).length = x.length + y.length := by rw [TL.len_tl, TL.tl_append, List.length_append, ← TL.len_tl, ← TL.len_tl]
  refine TL.ext_tl ?_
  unfold cutS
  rw [TL.tl_mk, HT.sIx_none, HT.sIx_nat, hl, Nat.min_eq_left (by omega), ← hk]
  show ((TL.tl (x ++ y)).drop _).take _ = _
  rw [TL.tl_append, TL.len_tl x, List.drop_left', ← TL.len_tl x]
  · rw [List.take_of_length_le]
    rw [← TL.len_tl]
    omega
  · rfl
end K00
namespace K00
open PySem PySem.Spec PyProof.Rows L2 DV FR
local macro_rules | `(tactic| walk_at "dv") => `(tactic| (simp only [dstart, List.map_cons, List.map_nil, List.length_cons, List.length_nil, Nat.reduceAdd, Nat.reduceSub, List.reduceReplicate, List.cons_append, List.nil_append, List.append_nil,
  dSeq, dNext, dSet, dRet, dRetN, dDrop, dAsg, dgName, dgTup, dgCons, dgNil, dgSub, dPar, dIfS, dVar, dC, dOp, dCons, dNil, dCB, dB, dAnd, dOr, dNot, dAndV, dOrV, dNotV, dIf, dTup, dLst, dCall, dBM, dSl, dNoPart, dPart, dFmt, dBits,
  List.getElem?_cons_succ, List.getElem?_cons_zero, List.set_cons_succ, List.set_cons_zero, Option.some.injEq, exists_eq_left', exists_eq_left, List.cons.injEq, D.int.injEq, D.bl.injEq, D.str.injEq, D.tup.injEq, D.ref.injEq, D.fls.injEq, and_true, true_and, and_assoc,
  if_true, if_false, Bool.false_eq_true, exists_const, exists_eq', exists_and_left, exists_and_right, List.length_singleton, ite_true, ite_false, Bool.not_true, Bool.not_false, reduceCtorEq, false_and, exists_false, Bool.false_xor, Bool.true_xor,
  ty_non, ty_bl, ty_int, ty_str, ty_tup, k01, k02, k03, k04, k05, k06, k07, k08, k09, k10, k11, k12, k13, k14, k15, k16, k17, k18, k19, k20, k21, k22, k23, k24, k25,
  rI2, DV.rIxD, rAddD, rLenD, rIsiD, rI2C, rEqv, rSlD, rIntD, rStrD, rAbsD, rIsND, rAppD, rPopD, rInsD, rFindD, tyM]))
theorem int_numS {n : Nat} (h : n < 10 ^ 60) : PySem.intText? (numS n) = some (n : Int) := TL.int_num (Nat.le_trans (TL.numL_len (by decide) h) (by decide))
theorem big60 {n : Nat} (h : n < 10 ^ 60) : (n : Int).natAbs < 2 ^ 200 := by
  have e : (10 : Nat) ^ 60 ≤ 2 ^ 200 := by decide +kernel
  rw [Int.natAbs_natCast]
  omega
theorem rd_fraction_or_none (ds : List D) (L : LHp) (Q : DK) (E : XD) (h : sp_fraction_or_none ds L Q E) : d_fraction_or_none { nx := fun _ L' => Q .non L', rt := Q } (dstart ["text", "cut", "top", "bottom"] ds) L := by
  obtain ⟨z, q, rfl, w, hQ⟩ := h
  unfold d_fraction_or_none
  walk_at "dv"
  cases w with
  | one n hn =>
    rw [find_none]
    refine iteT ⟨n, true, rfl, hn, fun L' g => ?_⟩
    have e : (if n = 0 then true else true) = true := by split <;> rfl
    rw [e]
    refine ⟨true, rfl, iteT ⟨n, int_numS hn, Nat.le_trans (numS_len hn) (by decide), by decide, ?_⟩⟩
    have := hQ L' g
    exact this
  | two t b h1 h2 h3 =>
    rw [find_slash]
    rw [decide_eq_false (show ¬ ((numS t).length : Int) < 0 by omega)]
    have hlen : (numS t ++ slash ++ numS b).length = (numS t).length + (slash.length + (numS b).length) := by
      rw [TL.len_tl, TL.tl_append, TL.tl_append, List.length_append, List.length_append, ← TL.len_tl, ← TL.len_tl, ← TL.len_tl]; omega
    have l1 := numS_len h1
    have l2 := numS_len h2
    have l3 : slash.length = 1 := by decide +kernel
    have c1 : cutS (numS t ++ slash ++ numS b) none (some ((numS t).length : Int)) = numS t := by
      rw [show numS t ++ slash ++ numS b = numS t ++ (slash ++ numS b) from TL.ext_tl (by rw [TL.tl_append, TL.tl_append, TL.tl_append, TL.tl_append, List.append_assoc])]
      exact cut_left _ _
    have c2 : cutS (numS t ++ slash ++ numS b) (some ((numS t).length + 1 : Int)) none = numS b := by
      have := cut_right (numS t ++ slash) (numS b) ((numS t).length + 1) (by rw [TL.len_tl, TL.tl_append, List.length_append, ← TL.len_tl, ← TL.len_tl]; omega)
      simpa using this
    rw [c1, c2]
    refine iteF ⟨sz (by omega), sz (by omega), t, true, rfl, h1, fun L' g => ?_⟩
    have e : (if t = 0 then true else true) = true := by split <;> rfl
    rw [e]
    refine ⟨true, rfl, iteF ⟨b, false, rfl, h2, fun L2 g2 => ?_⟩⟩
    have e2 : (if b = 0 then false else true) = true := by rw [if_neg (by omega)]
    rw [e2]
    refine ⟨true, rfl, iteF ⟨t, int_numS h1, Nat.le_trans l1 (by decide), b, int_numS h2, Nat.le_trans l2 (by decide), by decide, ?_⟩⟩
    have le : (2 : Nat) ^ 200 ≤ 2 ^ 8000 := Nat.pow_le_pow_right (by decide) (by decide)
    exact ⟨_, _, rfl, .pair t b (by omega) (by omega) (Nat.lt_of_lt_of_le (big60 h1) le) (Nat.lt_of_lt_of_le (big60 h2) le), hQ L2 (g.trans g2)⟩
theorem len_fraction_or_none (ds : List D) (L : LHp) (Q : DK) (E : XD) (h : sp_fraction_or_none ds L Q E) : ds.length = 1 := by obtain ⟨n, q, rfl, _⟩ := h; rfl
theorem rd_read_fraction (ds : List D) (L : LHp) (Q : DK) (E : XD) (h : sp_read_fraction ds L Q E) : d_read_fraction { nx := fun _ L' => Q .non L', rt := Q } (dstart ["text", "value"] ds) L := by
  obtain ⟨z, q, rfl, w, hQ⟩ := h
  unfold d_read_fraction
  walk_at "dv"
  refine ⟨z, q, rfl, w, fun L' g => ?_⟩
  unfold fr
  walk_at "dv"
  exact hQ L' g
theorem len_read_fraction (ds : List D) (L : LHp) (Q : DK) (E : XD) (h : sp_read_fraction ds L Q E) : ds.length = 1 := by obtain ⟨n, q, rfl, _⟩ := h; rfl
theorem log_small {n : Int} {k : Nat} (h : n.natAbs < 2 ^ k) (hk : 0 < k) (hk2 : k ≤ 1920) : n.natAbs.log2 < 1920 := Nat.lt_of_lt_of_le (PySem.Flt.log2_lt_of hk h) hk2
theorem bits_small {n : Int} {k : Nat} (h : n.natAbs < 2 ^ k) (hk : 0 < k) : Builtin.Int.intBits n ≤ k := by
  unfold Builtin.Int.intBits
  have := PySem.Flt.log2_lt_of hk h
  split <;> omega
theorem numS_len1900 {n : Int} (h0 : 0 ≤ n) (h : n.natAbs < 2 ^ 1900) : (numS n).length ≤ 600 := by
  obtain ⟨m, rfl⟩ := Int.eq_ofNat_of_zero_le h0
  rw [len_numS]
  refine TL.numL_len (by decide) (Nat.lt_of_lt_of_le (by simpa using h) ?_)
  decide +kernel
theorem str_empty_append (x : Str) : Str.empty ++ x = x := TL.ext_tl (by rw [TL.tl_append]; rfl)
theorem rd_fraction_text (ds : List D) (L : LHp) (Q : DK) (E : XD) (h : sp_fraction_text ds L Q E) : d_fraction_text { nx := fun _ L' => Q .non L', rt := Q } (dstart ["value", "top", "bottom", "bits"] ds) L := by
  obtain ⟨d, q, rfl, r, hQ⟩ := h
  have hq := r.bd
  unfold d_fraction_text
  walk_at "dv"
  refine ⟨by decide, [d], 1900, [q], rfl, .cons r .nil, ?_⟩
  refine ⟨d, q, rfl, r.mono (by decide), ?_⟩
  unfold fr
  walk_at "dv"
  have b1 := bits_small hq.top (by decide)
  have b2 := bits_small hq.botI (by decide)
  refine ⟨rfl, ?_⟩
  generalize hM : (if (Builtin.Int.intBits (q.den : Int) : Int) > (Builtin.Int.intBits q.num : Int) then (Builtin.Int.intBits (q.den : Int) : Int) else (Builtin.Int.intBits q.num : Int)) = M
  have hb : M ≤ 1900 := by
    rw [← hM]
    split <;> omega
  walk_at "dv"
  rw [decide_eq_false (show ¬ 12000 < M by omega)]
  refine iteF ?_
  unfold ftext at hQ
  by_cases h1 : q.den = 1
  · rw [decide_eq_true (show (q.den : Int) = 1 by omega)]
    rw [if_pos h1] at hQ
    exact iteT ⟨log_small hq.top (by decide) (by decide), hQ⟩
  · rw [decide_eq_false (show ¬ (q.den : Int) = 1 by omega)]
    rw [if_neg h1] at hQ
    refine iteF ?_
    have l1 := numS_len1900 hq.num0 hq.top
    have l2 := numS_len1900 (Int.natCast_nonneg _) hq.botI
    have l3 : slash.length = 1 := by decide +kernel
    have la : ∀ x y : Str, (x ++ y).length = x.length + y.length := fun x y => by rw [TL.len_tl, TL.tl_append, List.length_append, ← TL.len_tl, ← TL.len_tl]
    unfold dJs
    refine ⟨_, rfl, .inr ⟨q.num, rfl, log_small hq.top (by decide) (by decide), numS q.num, rfl, ?_, ?_⟩⟩
    · rw [str_empty_append]; exact sz (by omega)
    · unfold dJs
      refine ⟨slash, rfl, ?_, ?_⟩
      · rw [str_empty_append, la]; exact sz (by omega)
      · unfold dJs
        refine ⟨_, rfl, .inr ⟨(q.den : Int), rfl, log_small hq.botI (by decide) (by decide), numS (q.den : Int), rfl, ?_, ?_⟩⟩
        · rw [str_empty_append, la, la]; exact sz (by omega)
        · unfold dJs
          rw [str_empty_append]
          exact hQ
theorem len_fraction_text (ds : List D) (L : LHp) (Q : DK) (E : XD) (h : sp_fraction_text ds L Q E) : ds.length = 1 := by obtain ⟨n, q, rfl, _⟩ := h; rfl
end K00
namespace K00
open PySem PySem.Spec PyProof.Rows L2 DV FR
local macro_rules | `(tactic| walk_at "dv") => `(tactic| (simp only [dstart, List.map_cons, List.map_nil, List.length_cons, List.length_nil, Nat.reduceAdd, Nat.reduceSub, List.reduceReplicate, List.cons_append, List.nil_append, List.append_nil,
  dSeq, dNext, dSet, dRet, dRetN, dDrop, dAsg, dgName, dgTup, dgCons, dgNil, dgSub, dPar, dIfS, dVar, dC, dOp, dCons, dNil, dCB, dB, dAnd, dOr, dNot, dAndV, dOrV, dNotV, dIf, dTup, dLst, dCall, dBM, dSl, dNoPart, dPart, dFmt, dBits,
  List.getElem?_cons_succ, List.getElem?_cons_zero, List.set_cons_succ, List.set_cons_zero, Option.some.injEq, exists_eq_left', exists_eq_left, List.cons.injEq, D.int.injEq, D.bl.injEq, D.str.injEq, D.tup.injEq, D.ref.injEq, D.fls.injEq, and_true, true_and, and_assoc,
  if_true, if_false, Bool.false_eq_true, exists_const, exists_eq', exists_and_left, exists_and_right, List.length_singleton, ite_true, ite_false, Bool.not_true, Bool.not_false, reduceCtorEq, false_and, exists_false, Bool.false_xor, Bool.true_xor,
  ty_non, ty_bl, ty_int, ty_str, ty_tup, k01, k02, k03, k04, k05, k06, k07, k08, k09, k10, k11, k12, k13, k14, k15, k16, k17, k18, k19, k20, k21, k22, k23, k24, k25,
  rI2, DV.rIxD, rAddD, rLenD, rIsiD, rI2C, rEqv, rSlD, rIntD, rStrD, rAbsD, rIsND, rAppD, rPopD, rInsD, rFindD, tyM]))
theorem gcd_emod {a b : Int} (ha : 0 ≤ a) (hb : 0 < b) : Nat.gcd b.natAbs (a % b).natAbs = Nat.gcd a.natAbs b.natAbs := by
  obtain ⟨n, rfl⟩ := Int.eq_ofNat_of_zero_le ha
  obtain ⟨m, rfl⟩ := Int.eq_ofNat_of_zero_le (Int.le_of_lt hb)
  rw [← Int.natCast_emod, Int.natAbs_natCast, Int.natAbs_natCast, Int.natAbs_natCast, Nat.gcd_comm n m, Nat.gcd_rec m n, Nat.gcd_comm]
theorem rd__law_gcd (ds : List D) (L : LHp) (Q : DK) (E : XD) (h : sp__law_gcd ds L Q E) : d__law_gcd { nx := fun _ L' => Q .non L', rt := Q } (dstart ["one", "other"] ds) L := by
  obtain ⟨a, b, rfl, ha, hb, hQ⟩ := h
  unfold d__law_gcd dWhile
  walk_at "dv"
  refine ⟨fun k τ L' => L' = L ∧ ∃ x y : Int, τ = [some (.int x), some (.int y)] ∧ 0 ≤ x ∧ 0 ≤ y ∧ Nat.gcd x.natAbs y.natAbs = Nat.gcd a.natAbs b.natAbs ∧ k = y.toNat, ⟨_, rfl, a, b, rfl, ha, hb, rfl, rfl⟩, fun k τ L' ⟨e, x, y, ey, hx, hy, hg, hk⟩ => ?_⟩
  subst e ey
  walk_at "dv"
  by_cases h0 : y = 0
  · rw [decide_eq_true h0]
    refine iteF ?_
    subst h0
    rw [show Nat.gcd a.natAbs b.natAbs = x.natAbs by rw [← hg]; simp] at hQ
    rw [Int.natAbs_of_nonneg hx] at hQ
    exact hQ
  · rw [decide_eq_false h0]
    have hp : 0 < y := by omega
    refine iteT ⟨fun τ L2 => L2 = L' ∧ τ = [some (.int y), some (.int (x % y))], fun τ' L2 ⟨e1, e2⟩ => ?_, hp, rfl, rfl⟩
    subst e1 e2
    have h1 := Int.emod_nonneg x h0
    have h2 := Int.emod_lt_of_pos x hp
    exact ⟨(x % y).toNat, by omega, rfl, y, x % y, rfl, hy, h1, by rw [gcd_emod hx hp, hg], rfl⟩
theorem len__law_gcd (ds : List D) (L : LHp) (Q : DK) (E : XD) (h : sp__law_gcd ds L Q E) : ds.length = 2 := by obtain ⟨n, q, rfl, _⟩ := h; rfl
theorem rd__law_pair (ds : List D) (L : LHp) (Q : DK) (E : XD) (h : sp__law_pair ds L Q E) : d__law_pair { nx := fun _ L' => Q .non L', rt := Q } (dstart ["top", "low", "by"] ds) L := by
  obtain ⟨t, b, rfl, h0, h1, h3, hQ⟩ := h
  unfold d__law_pair
  walk_at "dv"
  refine ⟨t, b, rfl, h0, by omega, ?_⟩
  have hg := gcd_pos t b h1
  have hd : ∀ z, CDivW z ((Nat.gcd t.natAbs b.natAbs : Nat) : Int) := fun z => small_div (B := 8000) hg (Nat.lt_of_le_of_lt (by simpa using gcd_le t b h1) h3) (by omega)
  walk_at "dv"
  refine ⟨hd _, hd _, by decide, ?_⟩
  rw [low_num t b h1, low_den t b h1]
  exact hQ
theorem len__law_pair (ds : List D) (L : LHp) (Q : DK) (E : XD) (h : sp__law_pair ds L Q E) : ds.length = 2 := by obtain ⟨n, q, rfl, _⟩ := h; rfl
theorem ix2a {x y : D} {d : D} {L : LHp} {Q : DK} (h : Q x L) : DV.rIxD (.tup [x, y]) (.int 0) L Q := ⟨x, at_gen (j := 0) rfl rfl, h⟩
theorem ix2b {x y : D} {d : D} {L : LHp} {Q : DK} (h : Q y L) : DV.rIxD (.tup [x, y]) (.int 1) L Q := ⟨y, at_gen (j := 1) rfl rfl, h⟩
theorem at0 (x y : D) : atI [x, y] (0 : Int) = some x := at_gen (j := 0) rfl rfl
theorem at1 (x y : D) : atI [x, y] (1 : Int) = some y := at_gen (j := 1) rfl rfl
local macro_rules | `(tactic| walk_at "dw") => `(tactic| simp only [at0, at1, Option.some.injEq, exists_eq_left', exists_eq_left, and_true, true_and, and_assoc, exists_eq', exists_and_left, exists_and_right])
theorem rd__law_add (ds : List D) (L : LHp) (Q : DK) (E : XD) (h : sp__law_add ds L Q E) : d__law_add { nx := fun _ L' => Q .non L', rt := Q } (dstart ["one", "other"] ds) L := by
  obtain ⟨B, p, q, rfl, hp, hq, hB, hQ⟩ := h
  unfold d__law_add fr
  walk_at "dv"
  walk_at "dw"
  (try walk_at "dv")
  have e := t1 p q
  have a1 := mul_lt hp.top hq.botI
  have a2 := mul_lt hq.top hp.botI
  have le : (2 : Nat) ^ (B + B) ≤ 2 ^ 8000 := Nat.pow_le_pow_right (by decide) (by omega)
  refine ⟨mulW hp.top hq.botI (by omega), mulW hq.top hp.botI (by omega), mulW hp.botI hq.botI (by omega), _, _, rfl, ?_, Int.mul_pos (den_pos p) (den_pos q), Nat.lt_of_lt_of_le (mul_lt hp.botI hq.botI) le, ?_⟩
  · exact Int.add_nonneg (Int.mul_nonneg hp.num0 (by omega)) (Int.mul_nonneg hq.num0 (by omega))
  · rw [e]; exact hQ
theorem len__law_add (ds : List D) (L : LHp) (Q : DK) (E : XD) (h : sp__law_add ds L Q E) : ds.length = 2 := by obtain ⟨B, n, q, rfl, _⟩ := h; rfl
theorem rd__law_mul (ds : List D) (L : LHp) (Q : DK) (E : XD) (h : sp__law_mul ds L Q E) : d__law_mul { nx := fun _ L' => Q .non L', rt := Q } (dstart ["one", "other"] ds) L := by
  obtain ⟨B, p, q, rfl, hp, hq, hB, hQ⟩ := h
  unfold d__law_mul fr
  walk_at "dv"
  walk_at "dw"
  (try walk_at "dv")
  have e := mul_frac (a := p.num) (c := q.num) (den_pos p) (den_pos q)
  rw [div_self, div_self] at e
  have le : (2 : Nat) ^ (B + B) ≤ 2 ^ 8000 := Nat.pow_le_pow_right (by decide) (by omega)
  refine ⟨mulW hp.top hq.top (by omega), mulW hp.botI hq.botI (by omega), _, _, rfl, Int.mul_nonneg hp.num0 hq.num0, Int.mul_pos (den_pos p) (den_pos q), Nat.lt_of_lt_of_le (mul_lt hp.botI hq.botI) le, ?_⟩
  rw [e]; exact hQ
theorem len__law_mul (ds : List D) (L : LHp) (Q : DK) (E : XD) (h : sp__law_mul ds L Q E) : ds.length = 2 := by obtain ⟨B, n, q, rfl, _⟩ := h; rfl
theorem rd__law_less (ds : List D) (L : LHp) (Q : DK) (E : XD) (h : sp__law_less ds L Q E) : d__law_less { nx := fun _ L' => Q .non L', rt := Q } (dstart ["one", "other"] ds) L := by
  obtain ⟨B, p, q, rfl, hp, hq, hB, hQ⟩ := h
  unfold d__law_less fr
  walk_at "dv"
  walk_at "dw"
  (try walk_at "dv")
  refine ⟨mulW hp.top hq.botI (by omega), mulW hq.top hp.botI (by omega), ?_⟩
  rw [lt_cross]
  exact hQ
theorem len__law_less (ds : List D) (L : LHp) (Q : DK) (E : XD) (h : sp__law_less ds L Q E) : ds.length = 2 := by obtain ⟨B, n, q, rfl, _⟩ := h; rfl
theorem sub_cross (p q : Rat) : ((p.num * (q.den : Int) - q.num * (p.den : Int) : Int) : Rat) / (((p.den : Int) * (q.den : Int) : Int) : Rat) = p - q := by
  have hp := ne0 (den_pos p)
  have hq := ne0 (den_pos q)
  have ep := div_self p
  have eq := div_self q
  rw [Rat.intCast_sub, Rat.intCast_mul, Rat.intCast_mul, Rat.intCast_mul]
  conv => rhs; rw [← ep, ← eq]
  grind
theorem sub_nn {p q : Rat} (h : ¬ p < q) : 0 ≤ p.num * (q.den : Int) - q.num * (p.den : Int) := by
  have h2 : ¬ (p.num * (q.den : Int) < q.num * (p.den : Int)) := fun z => h ((Rat.lt_iff p q).mpr z)
  omega
theorem rd__law_apart (ds : List D) (L : LHp) (Q : DK) (E : XD) (h : sp__law_apart ds L Q E) : d__law_apart { nx := fun _ L' => Q .non L', rt := Q } (dstart ["one", "other"] ds) L := by
  obtain ⟨B, p, q, rfl, hp, hq, hB, hQ⟩ := h
  unfold d__law_apart
  walk_at "dv"
  refine ⟨B, p, q, rfl, hp, hq, hB, decide (p < q), rfl, ?_⟩
  have le : (2 : Nat) ^ (B + B) ≤ 2 ^ 8000 := Nat.pow_le_pow_right (by decide) (by omega)
  have fin : ∀ p q : Rat, Bd B p → Bd B q → ¬ p < q → Q (fr (p - q)) L → sp__law_pair [.int (p.num * (q.den : Int) - q.num * (p.den : Int)), .int ((p.den : Int) * (q.den : Int))] L Q ED0 := fun p q hp hq h k =>
    ⟨_, _, rfl, sub_nn h, Int.mul_pos (den_pos p) (den_pos q), Nat.lt_of_lt_of_le (mul_lt hp.botI hq.botI) le, by rw [sub_cross]; exact k⟩
  unfold rabs at hQ
  by_cases hl : p < q
  · rw [decide_eq_true hl]
    rw [if_pos (show p - q < 0 by grind)] at hQ
    refine iteT ?_
    unfold fr
    walk_at "dv"
    walk_at "dw"
    (try walk_at "dv")
    refine ⟨mulW hq.top hp.botI (by omega), mulW hp.top hq.botI (by omega), mulW hq.botI hp.botI (by omega), fin q p hq hp (by grind) ?_⟩
    rw [show q - p = -(p - q) by grind]
    exact hQ
  · rw [decide_eq_false hl]
    rw [if_neg (show ¬ p - q < 0 by grind)] at hQ
    refine iteF ?_
    unfold fr
    walk_at "dv"
    walk_at "dw"
    (try walk_at "dv")
    exact ⟨mulW hp.top hq.botI (by omega), mulW hq.top hp.botI (by omega), mulW hp.botI hq.botI (by omega), fin p q hp hq hl hQ⟩
theorem len__law_apart (ds : List D) (L : LHp) (Q : DK) (E : XD) (h : sp__law_apart ds L Q E) : ds.length = 2 := by obtain ⟨B, n, q, rfl, _⟩ := h; rfl
end K00
namespace K00
open PySem PySem.Spec PyProof.Rows L2 DV FR
local macro_rules | `(tactic| walk_at "dv") => `(tactic| (simp only [dstart, List.map_cons, List.map_nil, List.length_cons, List.length_nil, Nat.reduceAdd, Nat.reduceSub, List.reduceReplicate, List.cons_append, List.nil_append, List.append_nil,
  dSeq, dNext, dSet, dRet, dRetN, dDrop, dAsg, dgName, dgTup, dgCons, dgNil, dgSub, dPar, dIfS, dVar, dC, dOp, dCons, dNil, dCB, dB, dAnd, dOr, dNot, dAndV, dOrV, dNotV, dIf, dTup, dLst, dCall, dBM, dSl, dNoPart, dPart, dFmt, dBits,
  List.getElem?_cons_succ, List.getElem?_cons_zero, List.set_cons_succ, List.set_cons_zero, Option.some.injEq, exists_eq_left', exists_eq_left, List.cons.injEq, D.int.injEq, D.bl.injEq, D.str.injEq, D.tup.injEq, D.ref.injEq, D.fls.injEq, and_true, true_and, and_assoc,
  if_true, if_false, Bool.false_eq_true, exists_const, exists_eq', exists_and_left, exists_and_right, List.length_singleton, ite_true, ite_false, Bool.not_true, Bool.not_false, reduceCtorEq, false_and, exists_false, Bool.false_xor, Bool.true_xor,
  ty_non, ty_bl, ty_int, ty_str, ty_tup, k01, k02, k03, k04, k05, k06, k07, k08, k09, k10, k11, k12, k13, k14, k15, k16, k17, k18, k19, k20, k21, k22, k23, k24, k25,
  rI2, DV.rIxD, rAddD, rLenD, rIsiD, rI2C, rEqv, rSlD, rIntD, rStrD, rAbsD, rIsND, rAppD, rPopD, rInsD, rFindD, tyM]))
theorem BagOk.gr {L L' : LHp} {b c : Addr} (h : BagOk L b c) (g : Gr L L') : BagOk L' b c := by
  obtain ⟨cells, p, r, k, m, n, h1, h2, h3⟩ := h.ex
  exact ⟨cells, p, r, k, m, n, g _ _ h1, g _ _ h2, h3⟩
theorem Dr.refl {L : LHp} {b c : Addr} (h : BagOk L b c) : Dr b c L L := ⟨h, fun _ _ _ e => e⟩
theorem Dr.trans {L L1 L2 : LHp} {b c : Addr} (a : Dr b c L L1) (d : Dr b c L1 L2) : Dr b c L L2 := ⟨d.ok, fun x o n e => d.kp x o n (a.kp x o n e)⟩
theorem Dr.gr {L L1 L2 : LHp} {b c : Addr} (a : Dr b c L L1) (g : Gr L1 L2) : Dr b c L L2 := ⟨a.ok.gr g, fun x o n e => g x o (a.kp x o n e)⟩
theorem Dr.gr' {L L1 L2 : LHp} {b c : Addr} (g : Gr L L1) (a : Dr b c L1 L2) : Dr b c L L2 := ⟨a.ok, fun x o n e => a.kp x o n (g x o e)⟩
theorem Dr.rd {L L' : LHp} {b c t : Addr} {xs : List D} (a : Dr b c L L') (n : t ≠ b) (h : LRd L t xs) : LRd L' t xs := by
  rcases h with h | h
  · exact .inl (a.kp _ _ n h)
  · exact .inr (a.kp _ _ n h)
theorem BagOk.isS {L : LHp} {b c : Addr} (h : BagOk L b c) : L b ≠ none := by
  obtain ⟨cells, p, r, k, m, n, h1, _⟩ := h.ex
  rw [h1]
  exact fun z => by cases z
theorem BagOk.ne {L : LHp} {b c p : Addr} (h : BagOk L b c) (e : L p = none) : p ≠ b := fun z => h.isS (by rw [← z]; exact e)
theorem BagOk.isC {L : LHp} {b c : Addr} (h : BagOk L b c) : L c ≠ none := by
  obtain ⟨cells, p, r, k, m, n, h1, h2, _⟩ := h.ex
  rw [h2]
  exact fun z => by cases z
theorem BagOk.nc {L : LHp} {b c p : Addr} (h : BagOk L b c) (e : L p = none) : p ≠ c := fun z => h.isC (by rw [← z]; exact e)
theorem BagOk.upd {L : LHp} {b c p : Addr} {o : LO} (h : BagOk L b c) (n1 : p ≠ b) (n2 : p ≠ c) : BagOk (lupd L p o) b c := by
  obtain ⟨cells, q, r, k, m, n, h1, h2, h3⟩ := h.ex
  exact ⟨cells, q, r, k, m, n, by rw [lupd_ne (Ne.symm n1)]; exact h1, by rw [lupd_ne (Ne.symm n2)]; exact h2, h3⟩
theorem BagOk.put {L : LHp} {b c : Addr} {cells : List Int} {p : Nat} {r k m n : Int} (hc : L c = some (.lst (cells.map .int))) (ne : c ≠ b) (h0 : 0 ≤ r) (h1 : 0 ≤ m ∧ m < 2147483399) (h2 : 0 ≤ n) (hl : cells.length ≤ 63) :
    BagOk (lupd L b (.lst [.ref c, .int p, .int r, .int k, .int m, .int n])) b c := ⟨cells, p, r, k, m, n, lupd_same, by rw [lupd_ne ne]; exact hc, h0, h1, h2, hl⟩
theorem bagC {L : LHp} {b c : Addr} {cells : List Int} {x y z u v : D} (h1 : L b = some (.lst [.ref c, x, y, z, u, v])) (h2 : L c = some (.lst (cells.map .int))) : c ≠ b := fun e => by
  rw [e, h1] at h2
  cases cells with
  | nil => simp at h2
  | cons a r => simp at h2
local macro_rules | `(tactic| walk_at "bx") => `(tactic| ((first | refine ⟨?ds, Or.inl ?h1, ?x, ?h2, ?h3⟩ | refine ⟨?ds, ?h1, ?x, ?h2, ?h3⟩); (case h1 => first | assumption | exact lupd_same); (case h2 => rfl)))
def d_draw2 : DS :=
      (dSeq (dIfS (dB (dOp rGtD (dOp rIxD (dVar 0) (dC (.int 2))) (dC (.int 0))))
      (dSeq (dSet 3 (dOp rModD (dCB rIntD (dCons (dOp rIxD (dVar 0) (dC (.int 2))) dNil)) (dVar 1)))
      (dSeq (dAsg (dOp rSubD (dOp rIxD (dVar 0) (dC (.int 3))) (dC (.int 1))) (dgSub (dVar 0) (dC (.int 3))))
      (dSeq (dAsg (dIf (dB (dOp rGtD (dOp rIxD (dVar 0) (dC (.int 3))) (dC (.int 0)))) (dOp rDivD (dOp rIxD (dVar 0) (dC (.int 2))) (dVar 1)) (dC (.int 0))) (dgSub (dVar 0) (dC (.int 2))))
      (dRet (dVar 3)))))
      dNext)
      (dSeq (dAsg (dOp rModD (dCB rIntD (dCons (dOp rAddD (dOp rAddD (dOp rPowD (dOp rIxD (dVar 0) (dC (.int 4))) (dC (.int 3))) (dOp rMulD (dOp rIxD (dVar 0) (dC (.int 5))) (dC (.int 1000003)))) (dC (.int 4409))) dNil)) (dC (.int 2147483399))) (dgSub (dVar 0) (dC (.int 4))))
      (dRet (dOp rModD (dCB rIntD (dCons (dOp rAddD (dOp rDivD (dOp rIxD (dVar 0) (dC (.int 4))) (dC (.int 127))) (dOp rMulD (dOp rModD (dCB rIntD (dCons (dOp rIxD (dVar 0) (dC (.int 4))) dNil)) (dC (.int 8191))) (dC (.int 67)))) dNil)) (dVar 1)))))

abbrev bg (c : Addr) (p : Nat) (r k m n : Int) : List D := [.ref c, .int p, .int r, .int k, .int m, .int n]
theorem m31 {m : Int} (h : 0 ≤ m ∧ m < 2147483399) : m.natAbs < 2 ^ 64 := by omega
theorem cmulR {i j : Int} (h : -(2 ^ 64) < j ∧ j < 2 ^ 64) : CMulU i j := .inr (.inr h)
theorem modP {i : Int} : 0 ≤ i % 2147483399 ∧ i % 2147483399 < 2147483399 := ⟨Int.emod_nonneg _ (by decide), Int.emod_lt_of_pos _ (by decide)⟩
theorem draw2 {L : LHp} {b c : Addr} {cells : List Int} {p : Nat} {r k m n many : Int} {y2 : Option D} {Q : DK} (hb : L b = some (.lst (bg c p r k m n))) (hc : L c = some (.lst (cells.map .int))) (h0 : 0 ≤ r) (h1 : 0 ≤ m ∧ m < 2147483399) (h2 : 0 ≤ n) (hl : cells.length ≤ 63)
    (hm : 0 < many ∧ many.natAbs < 2 ^ 8000) (hQ : ∀ d L', (0 ≤ d ∧ d < many) → Dr b c L L' → Q (.int d) L') : d_draw2 { nx := fun _ L' => Q .non L', rt := Q } [some (.ref b), some (.int many), y2, none] L := by
  have ne := bagC hb hc
  have hd : CDivW r many := small_div (B := 8000) hm.1 hm.2 (by decide)
  have kp : ∀ p r k m n x, x ≠ b → ∀ o, L x = some o → (lupd L b (.lst (bg c p r k m n))) x = some o := fun p r k m n x hx o e => by rw [lupd_ne hx]; exact e
  unfold d_draw2
  walk_at "dv"
  walk_at "bx"
  walk_at "dv"
  by_cases hr : 0 < r
  · rw [decide_eq_true hr]
    refine iteT ?_
    walk_at "bx"
    walk_at "dv"
    refine ⟨hm.1, ?_⟩
    walk_at "bx"
    walk_at "dv"
    walk_at "bx"
    walk_at "bx"
    walk_at "dv"
    by_cases hk : 0 < k - 1
    · rw [decide_eq_true hk]
      refine iteT ?_
      walk_at "bx"
      refine ⟨hd, ?_⟩
      walk_at "bx"
      rw [lupd_lupd]
      exact hQ _ _ ⟨Int.emod_nonneg _ (by omega), Int.emod_lt_of_pos _ hm.1⟩ ⟨BagOk.put hc ne (Int.ediv_nonneg h0 (by omega)) h1 h2 hl, fun x o hx e => kp _ _ _ _ _ x hx o e⟩
    · rw [decide_eq_false hk]
      refine iteF ?_
      walk_at "bx"
      rw [lupd_lupd]
      exact hQ _ _ ⟨Int.emod_nonneg _ (by omega), Int.emod_lt_of_pos _ hm.1⟩ ⟨BagOk.put hc ne (Int.le_refl 0) h1 h2 hl, fun x o hx e => kp _ _ _ _ _ x hx o e⟩
  · rw [decide_eq_false hr]
    refine iteF ?_
    walk_at "bx"
    walk_at "dv"
    refine ⟨⟨by decide, by decide, m31 h1⟩, ?_⟩
    walk_at "bx"
    walk_at "dv"
    refine ⟨cmulR (by decide), by decide, ?_⟩
    walk_at "bx"
    walk_at "bx"
    walk_at "dv"
    refine ⟨wide_div (b := 8) (by decide) (by decide) (by decide) (by decide), ?_⟩
    walk_at "bx"
    walk_at "dv"
    refine ⟨by decide, cmulR (by decide), hm.1, ?_⟩
    exact hQ _ _ ⟨Int.emod_nonneg _ (by omega), Int.emod_lt_of_pos _ hm.1⟩ ⟨BagOk.put hc ne h0 modP h2 hl, fun x o hx e => kp _ _ _ _ _ x hx o e⟩
theorem cells_at {cells : List Int} {p : Nat} (h : p < cells.length) : atI (cells.map D.int) (p : Int) = some (.int cells[p]) := by
  refine at_gen (j := p) rfl ?_
  rw [List.getElem?_map, List.getElem?_eq_getElem h]
  rfl
theorem rd__law_draw (ds : List D) (L : LHp) (Q : DK) (E : XD) (h : sp__law_draw ds L Q E) : d__law_draw { nx := fun _ L' => Q .non L', rt := Q } (dstart ["bag", "many", "cell", "digit"] ds) L := by
  obtain ⟨b, c, many, rfl, B, hm, hQ⟩ := h
  obtain ⟨cells, p, r, k, m, n, hb, hc, h0, h1, h2, hl⟩ := B.ex
  have ne := bagC hb hc
  have fin : ∀ (p : Nat) (r k m n : Int) (y2 : Option D), 0 ≤ r → (0 ≤ m ∧ m < 2147483399) → 0 ≤ n → d_draw2 { nx := fun _ L' => Q .non L', rt := Q } [some (.ref b), some (.int many), y2, none] (lupd L b (.lst (bg c p r k m n))) := fun p r k m n y2 h0 h1 h2 =>
    draw2 lupd_same (by rw [lupd_ne ne]; exact hc) h0 h1 h2 hl hm fun d L' hd dr => hQ d L' hd ⟨dr.ok, fun x o hx e => dr.kp x o hx (by rw [lupd_ne hx]; exact e)⟩
  unfold d__law_draw
  show dSeq _ (dSeq _ d_draw2) _ _ _
  walk_at "dv"
  walk_at "bx"
  walk_at "dv"
  walk_at "bx"
  walk_at "bx"
  walk_at "dv"
  by_cases hr : r = 0
  · rw [decide_eq_true hr]
    refine iteT ?_
    walk_at "bx"
    walk_at "bx"
    walk_at "dv"
    refine ⟨_, .inl (by rw [lupd_ne ne]; exact hc), ?_⟩
    rw [List.length_map]
    by_cases hp : p < cells.length
    · rw [decide_eq_true (show (p : Int) < (cells.length : Int) by omega)]
      refine iteT ?_
      walk_at "bx"
      walk_at "bx"
      walk_at "dv"
      refine ⟨_, .inl (by rw [lupd_ne ne]; exact hc), _, cells_at hp, ?_⟩
      walk_at "bx"
      walk_at "dv"
      walk_at "bx"
      rw [lupd_lupd]
      refine ⟨⟨by decide, by decide, by decide⟩, ?_⟩
      by_cases hg : (10 : Int) ^ (18 : Int).toNat ≤ cells[p]
      · rw [decide_eq_true hg]
        refine iteT ?_
        walk_at "bx"
        rw [lupd_lupd]
        walk_at "bx"
        rw [lupd_lupd]
        exact fin (p + 1) cells[p] 60 m (n + 1) _ (Int.le_trans (by decide) hg) h1 (by omega)
      · rw [decide_eq_false hg]
        refine iteF ?_
        walk_at "bx"
        walk_at "dv"
        refine ⟨cmulR (by decide), by decide, by decide, ?_⟩
        walk_at "bx"
        rw [lupd_lupd]
        exact fin (p + 1) r k _ (n + 1) _ h0 modP (by omega)
    · rw [decide_eq_false (show ¬ (p : Int) < (cells.length : Int) by omega)]
      exact iteF (fin p r k m (n + 1) _ h0 h1 (by omega))
  · rw [decide_eq_false hr]
    exact iteF (fin p r k m (n + 1) _ h0 h1 (by omega))
theorem len__law_draw (ds : List D) (L : LHp) (Q : DK) (E : XD) (h : sp__law_draw ds L Q E) : ds.length = 2 := by obtain ⟨B, c, n, rfl, _⟩ := h; rfl
theorem rd__law_of (ds : List D) (L : LHp) (Q : DK) (E : XD) (h : sp__law_of ds L Q E) : d__law_of { nx := fun _ L' => Q .non L', rt := Q } (dstart ["bag", "things"] ds) L := by
  obtain ⟨b, c, t, xs, rfl, B, ne, hx, ⟨l0, l1⟩, hQ⟩ := h
  unfold d__law_of
  walk_at "dv"
  refine ⟨xs, hx, b, c, _, rfl, B, ⟨by omega, ?_⟩, fun d L' hd dr => ?_⟩
  · rw [Int.natAbs_natCast]
    exact Nat.lt_of_lt_of_le (show xs.length < 2 ^ 10 by omega) (Nat.pow_le_pow_right (by decide) (by decide))
  · obtain ⟨j, rfl⟩ := Int.eq_ofNat_of_zero_le hd.1
    have hj : j < xs.length := by omega
    walk_at "dv"
    exact ⟨xs, dr.rd ne hx, _, at_gen (j := j) rfl (List.getElem?_eq_getElem hj), hQ _ _ (List.getElem_mem hj) dr⟩
theorem len__law_of (ds : List D) (L : LHp) (Q : DK) (E : XD) (h : sp__law_of ds L Q E) : ds.length = 2 := by obtain ⟨B, c, t, n, rfl, _⟩ := h; rfl
theorem sq_at {j n : Nat} (h : j < n) : seqIndex? (j : Int) n = some j := by
  unfold seqIndex?
  simp
  omega
theorem perm_erase : ∀ {xs : List D} {j : Nat} (h : j < xs.length), (xs[j] :: xs.eraseIdx j).Perm xs
  | a :: xs, 0, _ => by simp
  | a :: xs, j + 1, h => by
    have h' : j < xs.length := by simpa using h
    have := perm_erase h'
    simp only [List.getElem_cons_succ, List.eraseIdx_cons_succ]
    exact (List.Perm.swap a xs[j] _).trans (List.Perm.cons a this)
theorem perm_pop {xs zs : List D} {j : Nat} (h : j < xs.length) : (xs.eraseIdx j ++ (zs ++ [xs[j]])).Perm (xs ++ zs) := by
  have h1 : (xs[j] :: xs.eraseIdx j).Perm xs := perm_erase h
  have h2 : (xs.eraseIdx j ++ (zs ++ [xs[j]])).Perm (xs.eraseIdx j ++ ([xs[j]] ++ zs)) := List.Perm.append_left _ List.perm_append_comm
  refine h2.trans ?_
  rw [← List.append_assoc]
  refine List.Perm.append_right _ ?_
  exact (List.perm_append_comm (l₁ := xs.eraseIdx j) (l₂ := [xs[j]])).trans h1
theorem rd__law_mixed (ds : List D) (L : LHp) (Q : DK) (E : XD) (h : sp__law_mixed ds L Q E) : d__law_mixed { nx := fun _ L' => Q .non L', rt := Q } (dstart ["bag", "things", "left", "found", "turn"] ds) L := by
  obtain ⟨b, c, t, xs, rfl, B, ne, hx, l1, hQ⟩ := h
  unfold d__law_mixed dForR
  walk_at "dv"
  refine ⟨xs, hx, fun p hp => ⟨by decide, fun q hq => ?_⟩⟩
  have npq : q ≠ p := fun e => by rw [e, lupd_same] at hq; cases hq
  have hq' : L q = none := by rw [lupd_ne npq] at hq; exact hq
  have ntp : t ≠ p := fun e => by rw [e] at hx; rcases hx with h | h <;> rw [hp] at h <;> cases h
  have ntq : t ≠ q := fun e => by rw [e] at hx; rcases hx with h | h <;> rw [hq'] at h <;> cases h
  have npb := B.ne hp
  have nqb := B.ne hq'
  have npc := B.nc hp
  have nqc := B.nc hq'
  have g1 : Gr L (lupd L p (.lst xs)) := Gr.new hp
  have g2 : Gr (lupd L p (.lst xs)) (lupd (lupd L p (.lst xs)) q (.lst [])) := Gr.new hq
  refine ⟨xs, ?_, ?_⟩
  · rcases hx with h | h
    · exact .inl (g2 _ _ (g1 _ _ h))
    · exact .inr (g2 _ _ (g1 _ _ h))
  refine ⟨by omega, by omega, fun i τ L' => ∃ (ys zs : List D) (y : Option D), τ = [some (.ref b), some (.ref t), some (.ref p), some (.ref q), y] ∧ L' p = some (.lst ys) ∧ L' q = some (.lst zs) ∧ (ys ++ zs).Perm xs ∧ ys.length + i = xs.length ∧ BagOk L' b c ∧ (∀ a o, a ≠ b → L a = some o → L' a = some o), ⟨xs, [], _, rfl, by rw [lupd_ne (Ne.symm npq), lupd_same], lupd_same, by simp, by omega, (B.gr g1).gr g2, fun a o _ e => g2 _ _ (g1 _ _ e)⟩, fun i τ L' hi ⟨ys, zs, y, ey, e1, e2, pm, hl, ok, kp⟩ => ?_, fun τ L' ⟨ys, zs, y, ey, e1, e2, pm, hl, ok, kp⟩ => ?_⟩
  · subst ey
    have hi' : i < xs.length := by omega
    walk_at "dv"
    refine ⟨⟨_, .inl e2⟩, ⟨_, .inl e1⟩, ys, .inl e1, b, c, _, rfl, ok, ⟨by omega, ?_⟩, fun d L2 hd dr => ?_⟩
    · rw [Int.natAbs_natCast]
      exact Nat.lt_of_lt_of_le (show ys.length < 2 ^ 10 by omega) (Nat.pow_le_pow_right (by decide) (by decide))
    · obtain ⟨j, rfl⟩ := Int.eq_ofNat_of_zero_le hd.1
      have hj : j < ys.length := by omega
      walk_at "dv"
      have f1 := dr.kp _ _ npb e1
      have f2 := dr.kp _ _ nqb e2
      refine ⟨ys, f1, by omega, by omega, j, sq_at hj, _, List.getElem?_eq_getElem hj, zs, by rw [lupd_ne npq]; exact f2, ?_, ys.eraseIdx j, by rw [lupd_ne (Ne.symm npq), lupd_same], _, lupd_same, ?_, ?_, ?_, ?_⟩
      · have : zs.length ≤ xs.length := by rw [← pm.length_eq, List.length_append]; omega
        exact Nat.lt_of_le_of_lt (Nat.le_trans this l1) (by decide)
      · refine List.Perm.trans ?_ pm
        exact perm_pop hj
      · rw [List.length_eraseIdx, if_pos hj]; omega
      · exact (dr.ok.upd npb npc).upd nqb nqc
      · intro a o na e
        have nap : a ≠ p := fun z => by rw [z, hp] at e; cases e
        have naq : a ≠ q := fun z => by rw [z, hq'] at e; cases e
        rw [lupd_ne naq, lupd_ne nap]
        exact dr.kp a o na (kp a o na e)
  · subst ey
    walk_at "dv"
    exact hQ q zs L' hq' (by
      have : ys = [] := List.eq_nil_of_length_eq_zero (by omega)
      rw [this] at pm; exact pm) e2 ⟨ok, kp⟩
theorem len__law_mixed (ds : List D) (L : LHp) (Q : DK) (E : XD) (h : sp__law_mixed ds L Q E) : ds.length = 2 := by obtain ⟨B, c, t, n, rfl, _⟩ := h; rfl
end K00
namespace K00
open PySem PySem.Spec PyProof.Rows L2 DV FR
local macro_rules | `(tactic| walk_at "dv") => `(tactic| (simp only [dstart, List.map_cons, List.map_nil, List.length_cons, List.length_nil, Nat.reduceAdd, Nat.reduceSub, List.reduceReplicate, List.cons_append, List.nil_append, List.append_nil,
  dSeq, dNext, dSet, dRet, dRetN, dDrop, dAsg, dgName, dgTup, dgCons, dgNil, dgSub, dPar, dIfS, dVar, dC, dOp, dCons, dNil, dCB, dB, dAnd, dOr, dNot, dAndV, dOrV, dNotV, dIf, dTup, dLst, dCall, dBM, dSl, dNoPart, dPart, dFmt, dBits,
  List.getElem?_cons_succ, List.getElem?_cons_zero, List.set_cons_succ, List.set_cons_zero, Option.some.injEq, exists_eq_left', exists_eq_left, List.cons.injEq, D.int.injEq, D.bl.injEq, D.str.injEq, D.tup.injEq, D.ref.injEq, D.fls.injEq, and_true, true_and, and_assoc,
  if_true, if_false, Bool.false_eq_true, exists_const, exists_eq', exists_and_left, exists_and_right, List.length_singleton, ite_true, ite_false, Bool.not_true, Bool.not_false, reduceCtorEq, false_and, exists_false, Bool.false_xor, Bool.true_xor,
  ty_non, ty_bl, ty_int, ty_str, ty_tup, k01, k02, k03, k04, k05, k06, k07, k08, k09, k10, k11, k12, k13, k14, k15, k16, k17, k18, k19, k20, k21, k22, k23, k24, k25,
  rI2, DV.rIxD, rAddD, rLenD, rIsiD, rI2C, rEqv, rSlD, rIntD, rStrD, rAbsD, rIsND, rAppD, rPopD, rInsD, rFindD, tyM]))
local macro_rules | `(tactic| walk_at "dw") => `(tactic| simp only [at0, at1, Option.some.injEq, exists_eq_left', exists_eq_left, and_true, true_and, and_assoc, exists_eq', exists_and_left, exists_and_right])
local macro_rules | `(tactic| walk_at "bx") => `(tactic| ((first | refine ⟨?ds, Or.inl ?h1, ?x, ?h2, ?h3⟩ | refine ⟨?ds, ?h1, ?x, ?h2, ?h3⟩); (case h1 => first | assumption | exact lupd_same); (case h2 => rfl)))
theorem like_sc (sp0 : DSp) {d : D} {L : LHp} {Q : DK} (h : Sc d) (hQ : Q (.bl true) L) : d__law_like sp0 { nx := fun _ L' => Q .non L', rt := Q } (dstart ["told", "due", "k", "key"] [d, d]) L := by
  unfold d__law_like
  cases h with
  | int i =>
    walk_at "dv"
    simpa using hQ
  | bl b =>
    walk_at "dv"
    simpa using hQ
  | str z =>
    walk_at "dv"
    simpa using hQ
theorem rd__law_like0 (ds : List D) (L : LHp) (Q : DK) (E : XD) (h : sp__law_like0 ds L Q E) : d__law_like (fun _ _ _ _ => False) { nx := fun _ L' => Q .non L', rt := Q } (dstart ["told", "due", "k", "key"] ds) L := by
  obtain ⟨d, rfl, s, hQ⟩ := h
  exact like_sc _ s hQ
theorem len__law_like0 (ds : List D) (L : LHp) (Q : DK) (E : XD) (h : sp__law_like0 ds L Q E) : ds.length = 2 := by obtain ⟨B, rfl, _⟩ := h; rfl
theorem eq_nil {L : LHp} {a p : Addr} {Q : DK} (h1 : L a = some (.lst [])) (h2 : L p = some (.lst [])) (h : Q (.bl true) L) : rEqv false (.ref a) (.ref p) L Q :=
  ⟨[], [], .inl h1, .inl h2, ⟨rfl, by decide +kernel⟩, ⟨rfl, by decide +kernel⟩, h⟩
theorem like_two {i j : Int} {L : LHp} {Q : DK} (hQ : ∀ L', Gr L L' → Q (.bl true) L') : d__law_like sp__law_like0 { nx := fun _ L' => Q .non L', rt := Q } (dstart ["told", "due", "k", "key"] [.tup [.int i, .int j], .tup [.int i, .int j]]) L := by
  unfold d__law_like
  walk_at "dv"
  rw [if_neg (by simp), if_neg (by simp), if_neg (by simp)]
  unfold dLcR
  walk_at "dv"
  refine ⟨by decide, by decide, fun E hE => ⟨fun _ L' => L' = lupd L E (.lst []), rfl, fun k L' hk e => ?_, fun L' e => ?_⟩⟩
  · subst e
    unfold lcTurn
    walk_at "dv"
    have : k = 0 ∨ k = 1 := by
      have : k < 2 := hk
      omega
    rcases this with rfl | rfl
    · exact ⟨_, at0 _ _, _, at0 _ _, _, rfl, .int i, _, rfl, iteF rfl⟩
    · exact ⟨_, at1 _ _, _, at1 _ _, _, rfl, .int j, _, rfl, iteF rfl⟩
  · subst e
    refine ⟨by decide, fun p hp => ?_⟩
    have ne : E ≠ p := fun z => by rw [← z, lupd_same] at hp; cases hp
    exact ⟨[], .inl (by rw [lupd_ne ne]; exact lupd_same), [], .inl lupd_same, ⟨rfl, by decide +kernel⟩, ⟨rfl, by decide +kernel⟩, hQ _ (Gr.trans (Gr.new hE) (Gr.new hp))⟩
theorem rd__law_like (ds : List D) (L : LHp) (Q : DK) (E : XD) (h : sp__law_like ds L Q E) : d__law_like sp__law_like0 { nx := fun _ L' => Q .non L', rt := Q } (dstart ["told", "due", "k", "key"] ds) L := by
  obtain ⟨d, rfl, t, hQ⟩ := h
  cases t with
  | sc s => exact like_sc _ s (hQ _ Gr.refl)
  | two i j => exact like_two hQ
theorem len__law_like (ds : List D) (L : LHp) (Q : DK) (E : XD) (h : sp__law_like ds L Q E) : ds.length = 2 := by obtain ⟨B, rfl, _⟩ := h; rfl
theorem add_bd {B C : Nat} {p q : Rat} (hp : Bd C p) (hq : Bd B q) : Bd (B + C + 1) (p + q) := by
  have e := t1 p q
  rw [← e]
  have x1 := mul_lt hp.top hq.botI
  have x2 := mul_lt hq.top hp.botI
  rw [Nat.add_comm C B] at x1
  have x3 := add_lt x1 x2
  refine bd_of _ _ _ (Int.add_nonneg (Int.mul_nonneg hp.num0 (by omega)) (Int.mul_nonneg hq.num0 (by omega))) (Int.mul_pos (den_pos p) (den_pos q)) x3 ?_
  have x4 := mul_lt hp.botI hq.botI
  exact Nat.lt_of_lt_of_le x4 (Nat.pow_le_pow_right (by decide) (by omega))
theorem fr_zero : fr 0 = .tup [.int 0, .int 1] := rfl
theorem fr_one : fr 1 = .tup [.int 1, .int 1] := rfl
theorem bd_zero {B : Nat} (h : 0 < B) : Bd B 0 := ⟨by decide, Nat.pow_pos (by decide), Nat.one_lt_two_pow (by omega)⟩
theorem rd__law_total (ds : List D) (L : LHp) (Q : DK) (E : XD) (h : sp__law_total ds L Q E) : d__law_total { nx := fun _ L' => Q .non L', rt := Q } (dstart ["things", "found", "one"] ds) L := by
  obtain ⟨t, B, qs, rfl, hl, hb, hB, hB2, hQ⟩ := h
  unfold d__law_total dForL
  walk_at "dv"
  refine ⟨by decide, _, hl, fun i τ L' => L' = L ∧ ∃ y, τ = [some (.ref t), some (fr (rsum (qs.take i))), y] ∧ Bd ((B + 1) * i + 1) (rsum (qs.take i)), ⟨rfl, _, rfl, bd_zero (by omega)⟩, fun i τ' L' hi ⟨e, _⟩ => ?_, fun i d τ' L' hd ⟨e, y, ey, hs⟩ => ?_, fun τ' L' ⟨e, y, ey, hs⟩ => ?_⟩
  · subst e
    exact hl
  · subst e ey
    rw [List.getElem?_map] at hd
    obtain ⟨q, gq, rfl⟩ := Option.map_eq_some_iff.mp hd
    have hi : i < qs.length := (List.getElem?_eq_some_iff.mp gq).1
    have hq := hb q (List.mem_of_getElem? gq)
    have hmul : (B + 1) * (i + 1) = (B + 1) * i + (B + 1) := Nat.mul_succ _ _
    have hle : (B + 1) * (i + 1) ≤ (B + 1) * qs.length := Nat.mul_le_mul_left _ hi
    walk_at "dv"
    refine ⟨3000, _, q, rfl, hs.mono (by omega), hq.mono (by omega), by decide, ?_⟩
    rw [take_snoc gq, rsum_snoc]
    have hx := add_bd hs hq
    exact ⟨rfl, rfl, hx.mono (by omega)⟩
  · subst e ey
    walk_at "dv"
    rw [List.length_map, List.take_length]
    exact hQ
theorem len__law_total (ds : List D) (L : LHp) (Q : DK) (E : XD) (h : sp__law_total ds L Q E) : ds.length = 1 := by obtain ⟨B, c, n, rfl, _⟩ := h; rfl
theorem len_app (x y : Str) : (x ++ y).length = x.length + y.length := by rw [TL.len_tl, TL.tl_append, List.length_append, ← TL.len_tl, ← TL.len_tl]
theorem len_slash : (PySem.Str.ofString "/").length = 1 := by decide +kernel
theorem rd__law_word (ds : List D) (L : LHp) (Q : DK) (E : XD) (h : sp__law_word ds L Q E) : d__law_word { nx := fun _ L' => Q .non L', rt := Q } (dstart ["one"] ds) L := by
  obtain ⟨q, rfl, hq, hQ⟩ := h
  unfold d__law_word fr
  walk_at "dv"
  walk_at "dw"
  (try walk_at "dv")
  unfold ftext at hQ
  by_cases h1 : q.den = 1
  · rw [decide_eq_true (show (q.den : Int) = 1 by omega)]
    rw [if_pos h1] at hQ
    exact iteT ⟨log_small hq.top (by decide) (by decide), hQ⟩
  · rw [decide_eq_false (show ¬ (q.den : Int) = 1 by omega)]
    rw [if_neg h1] at hQ
    refine iteF ?_
    have l1 := numS_len1900 hq.num0 hq.top
    have l2 := numS_len1900 (Int.natCast_nonneg _) hq.botI
    change (PySem.Str.ofString (toString q.num)).length ≤ 600 at l1
    change (PySem.Str.ofString (toString (q.den : Int))).length ≤ 600 at l2
    refine ⟨log_small hq.top (by decide) (by decide), ?_, log_small hq.botI (by decide) (by decide), ?_, hQ⟩
    · rw [len_slash]; exact sz (by omega)
    · rw [len_app, len_slash]; exact sz (by omega)
theorem len__law_word (ds : List D) (L : LHp) (Q : DK) (E : XD) (h : sp__law_word ds L Q E) : ds.length = 1 := by obtain ⟨B, rfl, _⟩ := h; rfl
theorem int_at {d : D} {ns : List Int} (h : d ∈ ns.map D.int) : ∃ n, n ∈ ns ∧ d = .int n := by
  obtain ⟨n, hn, rfl⟩ := List.mem_map.mp h
  exact ⟨n, hn, rfl⟩
theorem mul_by {p b : Int} {n : Int} (hb : 0 < b) (hn : 0 < n) : ((p * n : Int) : Rat) / ((b * n : Int) : Rat) = (p : Rat) / (b : Rat) := by
  have n1 := ne0 hb
  have n2 := ne0 hn
  rw [Rat.intCast_mul, Rat.intCast_mul]
  grind
theorem rd__law_raw (ds : List D) (L : LHp) (Q : DK) (E : XD) (h : sp__law_raw ds L Q E) : d__law_raw { nx := fun _ L' => Q .non L', rt := Q } (dstart ["bag", "one", "by"] ds) L := by
  obtain ⟨b, c, q, rfl, B, hq, hQ⟩ := h
  unfold d__law_raw fr
  walk_at "dv"
  walk_at "dw"
  (try walk_at "dv")
  have fin : ∀ L1, Dr b c L L1 → ∀ p, L1 p = none → sp__law_of [D.ref b, D.ref p] (lupd L1 p (LO.lst [D.int 1, D.int 2, D.int 1, D.int 3, D.int 10, D.int (10 ^ Int.toNat 12)])) (fun x L1 => rMulD (D.int q.num) x L1 fun x_1 L1 => rMulD (D.int ↑q.den) x L1 fun x L1 => 2 ≤ sizeLine ∧ Q (D.tup [x_1, x]) L1) ED0 := by
    intro L1 dr p hp
    have g : Gr L1 (lupd L1 p (LO.lst [D.int 1, D.int 2, D.int 1, D.int 3, D.int 10, D.int (10 ^ Int.toNat 12)])) := Gr.new hp
    refine ⟨b, c, p, [D.int 1, D.int 2, D.int 1, D.int 3, D.int 10, D.int (10 ^ Int.toNat 12)], rfl, dr.ok.gr g, dr.ok.ne hp, .inl lupd_same, ⟨by simp, by simp⟩, fun d L2 hd dr2 => ?_⟩
    obtain ⟨n, hn, rfl⟩ := int_at (ns := [1, 2, 1, 3, 10, 10 ^ Int.toNat 12]) hd
    have hn2 : 0 < n ∧ n < 2 ^ 40 := by
      simp at hn
      omega
    have hn3 : n.natAbs < 2 ^ 40 := by omega
    have hd := den_pos q
    walk_at "dv"
    refine ⟨mulW hq.top hn3 (by decide), mulW hq.botI hn3 (by decide), by decide, hQ _ L2 ((dr.gr g).trans dr2) ?_⟩
    have e := mul_by (p := q.num) hd hn2.1
    rw [div_self] at e
    have := Raw.pair (B := 170) (q.num * n) ((q.den : Int) * n) (Int.mul_nonneg hq.num0 (by omega)) (Int.mul_pos hd hn2.1) (mul_lt hq.top hn3) (mul_lt hq.botI hn3)
    rw [e] at this
    exact this
  by_cases h1 : q.den = 1
  · rw [decide_eq_true (show (q.den : Int) = 1 by omega)]
    refine iteT ⟨b, c, 2, rfl, B, ⟨by decide, by decide⟩, fun d L1 hd dr => ?_⟩
    walk_at "dv"
    by_cases h2 : d = 0
    · rw [decide_eq_true h2]
      refine iteT (hQ _ L1 dr ?_)
      have := Raw.int (B := 170) q.num (by decide) hq.num0 (Nat.lt_of_lt_of_le hq.top (Nat.pow_le_pow_right (by decide) (by decide)))
      rw [show ((q.num : Int) : Rat) = q from Rat.ext (by simp) (by simp [h1])] at this
      exact this
    · rw [decide_eq_false h2]
      exact iteF ⟨⟨by decide, by decide, by decide⟩, by decide, fun p hp => fin L1 dr p hp⟩
  · rw [decide_eq_false (show ¬ (q.den : Int) = 1 by omega)]
    exact iteF ⟨⟨by decide, by decide, by decide⟩, by decide, fun p hp => fin L (Dr.refl B) p hp⟩
theorem len__law_raw (ds : List D) (L : LHp) (Q : DK) (E : XD) (h : sp__law_raw ds L Q E) : ds.length = 2 := by obtain ⟨B, c, n, rfl, _⟩ := h; rfl
end K00
namespace K00
open PySem PySem.Spec PyProof.Rows L2 DV FR
local macro_rules | `(tactic| walk_at "dv") => `(tactic| (simp only [dstart, List.map_cons, List.map_nil, List.length_cons, List.length_nil, Nat.reduceAdd, Nat.reduceSub, List.reduceReplicate, List.cons_append, List.nil_append, List.append_nil,
  dSeq, dNext, dSet, dRet, dRetN, dDrop, dAsg, dgName, dgTup, dgCons, dgNil, dgSub, dPar, dIfS, dVar, dC, dOp, dCons, dNil, dCB, dB, dAnd, dOr, dNot, dAndV, dOrV, dNotV, dIf, dTup, dLst, dCall, dBM, dSl, dNoPart, dPart, dFmt, dBits,
  List.getElem?_cons_succ, List.getElem?_cons_zero, List.set_cons_succ, List.set_cons_zero, Option.some.injEq, exists_eq_left', exists_eq_left, List.cons.injEq, D.int.injEq, D.bl.injEq, D.str.injEq, D.tup.injEq, D.ref.injEq, D.fls.injEq, and_true, true_and, and_assoc,
  if_true, if_false, Bool.false_eq_true, exists_const, exists_eq', exists_and_left, exists_and_right, List.length_singleton, ite_true, ite_false, Bool.not_true, Bool.not_false, reduceCtorEq, false_and, exists_false, Bool.false_xor, Bool.true_xor,
  ty_non, ty_bl, ty_int, ty_str, ty_tup, k01, k02, k03, k04, k05, k06, k07, k08, k09, k10, k11, k12, k13, k14, k15, k16, k17, k18, k19, k20, k21, k22, k23, k24, k25,
  rI2, DV.rIxD, rAddD, rLenD, rIsiD, rI2C, rEqv, rSlD, rIntD, rStrD, rAbsD, rIsND, rAppD, rPopD, rInsD, rFindD, tyM]))
local macro_rules | `(tactic| walk_at "dw") => `(tactic| simp only [at0, at1, Option.some.injEq, exists_eq_left', exists_eq_left, and_true, true_and, and_assoc, exists_eq', exists_and_left, exists_and_right])
local macro_rules | `(tactic| walk_at "bx") => `(tactic| ((first | refine ⟨?ds, Or.inl ?h1, ?x, ?h2, ?h3⟩ | refine ⟨?ds, ?h1, ?x, ?h2, ?h3⟩); (case h1 => first | assumption | exact lupd_same); (case h2 => rfl)))
theorem ix_cell {ns : List Int} {i : Nat} (h : i < ns.length) : atI (ns.map D.int) (i : Int) = some (.int ns[i]) := cells_at h
theorem rd__law_bag (ds : List D) (L : LHp) (Q : DK) (E : XD) (h : sp__law_bag ds L Q E) : d__law_bag { nx := fun _ L' => Q .non L', rt := Q } (dstart ["script", "mixed", "at"] ds) L := by
  obtain ⟨ns, rfl, hl, hQ⟩ := h
  have em : (if ((ns.map D.int).length : Int) < 63 then ((ns.map D.int).length : Int) else 63) = (ns.length : Int) := by
    rw [List.length_map]
    split <;> omega
  unfold d__law_bag dForR
  walk_at "dv"
  rw [em]
  refine ⟨by omega, by omega, fun i τ L' => L' = L ∧ ∃ (m : Int) (y : Option D), τ = [some (.fls (ns.map D.int)), some (.int m), y] ∧ 0 ≤ m ∧ m < 2147483399, ⟨rfl, _, _, rfl, by decide, by decide⟩, fun i τ' L' hi ⟨e, m, y, ey, m0, m1⟩ => ?_, fun τ' L' ⟨e, m, y, ey, m0, m1⟩ => ?_⟩
  · subst e ey
    have hi' : i < ns.length := by omega
    walk_at "dv"
    refine ⟨cmulR (by decide), _, ix_cell hi', ?_⟩
    walk_at "dv"
    exact ⟨by decide, cmulR (by omega), by decide, modP.1, modP.2⟩
  · subst e ey
    unfold dLcR
    walk_at "dv"
    rw [em]
    refine ⟨by omega, by omega, fun E hE => ⟨fun i L2 => L2 = lupd L' E (.lst ((ns.take i).map .int)), rfl, fun i L2 hi e => ?_, fun L2 e => ?_⟩⟩
    · subst e
      have hi' : i < ns.length := by omega
      unfold lcTurn dTYes
      refine iteT ?_
      walk_at "dv"
      refine ⟨_, ix_cell hi', ?_⟩
      walk_at "dv"
      refine ⟨_, lupd_same, ?_, ?_⟩
      · rw [List.length_map, List.length_take]
        exact Nat.lt_of_le_of_lt (show min i ns.length ≤ 63 by omega) (by decide)
      · rw [lupd_lupd, take_snoc (List.getElem?_eq_getElem hi'), List.map_append]
        rfl
    · subst e
      refine ⟨by decide, fun p hp => ?_⟩
      have hEp : E ≠ p := fun z => by rw [← z, lupd_same] at hp; cases hp
      have hp' : L' p = none := by rw [lupd_ne (Ne.symm hEp)] at hp; exact hp
      refine hQ p E _ hp' ⟨ns, 0, 0, 0, m, 0, lupd_same, ?_, by decide, ⟨m0, m1⟩, by decide, hl⟩ ((Gr.new hE).trans (Gr.new hp))
      rw [lupd_ne hEp, lupd_same, Int.toNat_natCast, List.take_length]
theorem len__law_bag (ds : List D) (L : LHp) (Q : DK) (E : XD) (h : sp__law_bag ds L Q E) : ds.length = 1 := by obtain ⟨B, rfl, _⟩ := h; rfl
theorem n60 {q : Int} (n : Int) (h0 : 0 ≤ q) (h : q.natAbs < 2 ^ 190) (hn : 0 < n ∧ n ≤ 5) : ∃ k : Nat, q * n = (k : Int) ∧ k < 10 ^ 60 := by
  refine ⟨(q * n).toNat, by rw [Int.toNat_of_nonneg (Int.mul_nonneg h0 (by omega))], ?_⟩
  have h2 : q.natAbs * n.natAbs < 2 ^ 190 * 6 := by
    refine Nat.lt_of_lt_of_le (Nat.mul_lt_mul_of_lt_of_le h (Nat.le_refl _) (by omega)) (Nat.mul_le_mul_left _ (by omega))
  rw [← Int.natAbs_mul] at h2
  have h3 : (2 : Nat) ^ 190 * 6 < 10 ^ 60 := by decide
  omega
theorem word_of {q : Rat} (hq : Bd 190 q) : Word (ftext q) q := by
  obtain ⟨k, e1, h1⟩ := n60 1 hq.num0 hq.top ⟨by decide, by decide⟩
  obtain ⟨m, e2, h2⟩ := n60 1 (Int.natCast_nonneg _) hq.botI ⟨by decide, by decide⟩
  rw [Int.mul_one] at e1 e2
  have hd := den_pos q
  unfold ftext
  by_cases hh : q.den = 1
  · rw [if_pos hh]
    have := Word.one k h1
    rw [← e1] at this
    rw [show ((q.num : Int) : Rat) = q from Rat.ext (by simp) (by simp [hh])] at this
    exact this
  · rw [if_neg hh]
    have := Word.two k m h1 h2 (by omega)
    rw [← e1, ← e2, div_self] at this
    exact this
theorem rd__law_odd_word (ds : List D) (L : LHp) (Q : DK) (E : XD) (h : sp__law_odd_word ds L Q E) : d__law_odd_word { nx := fun _ L' => Q .non L', rt := Q } (dstart ["bag", "one", "by"] ds) L := by
  obtain ⟨b, c, q, rfl, B, hq, hQ⟩ := h
  unfold d__law_odd_word fr
  walk_at "dv"
  walk_at "dw"
  (try walk_at "dv")
  refine ⟨by decide, fun p hp => ?_⟩
  have g : Gr L (lupd L p (LO.lst [D.int 1, D.int 1, D.int 2, D.int 3, D.int 1, D.int 5])) := Gr.new hp
  refine ⟨b, c, p, _, rfl, B.gr g, B.ne hp, .inl lupd_same, ⟨by simp, by simp⟩, fun d L2 hd dr2 => ?_⟩
  obtain ⟨n, hn, rfl⟩ := int_at (ns := [1, 1, 2, 3, 1, 5]) hd
  have dr := dr2.gr' g
  have hn2 : 0 < n ∧ n ≤ 5 := by
    simp at hn
    omega
  have hn3 : n.natAbs < 2 ^ 3 := by omega
  have hd := den_pos q
  walk_at "dv"
  by_cases h1 : n = 1
  · rw [decide_eq_true h1]
    exact iteT ⟨q, rfl, hq.mono (by decide), hQ _ L2 dr (word_of hq)⟩
  · rw [decide_eq_false h1]
    obtain ⟨k, e1, f1⟩ := n60 n hq.num0 hq.top hn2
    obtain ⟨m, e2, f2⟩ := n60 n (Int.natCast_nonneg _) hq.botI hn2
    have l1 : (PySem.Str.ofString (toString (q.num * n))).length ≤ 60 := by rw [e1]; exact numS_len f1
    have l2 : (PySem.Str.ofString (toString ((q.den : Int) * n))).length ≤ 60 := by rw [e2]; exact numS_len f2
    refine iteF ⟨mulW hq.top hn3 (by decide), log_small (mul_lt hq.top hn3) (by decide) (by decide), ?_, mulW hq.botI hn3 (by decide), log_small (mul_lt hq.botI hn3) (by decide) (by decide), ?_, hQ _ L2 dr ?_⟩
    · rw [len_slash]; exact sz (by omega)
    · rw [len_app, len_slash]; exact sz (by omega)
    · have e := mul_by (p := q.num) hd hn2.1
      rw [div_self, e1, e2] at e
      have hm : 0 < m := by
        have := Int.mul_pos hd hn2.1
        omega
      have := Word.two k m f1 f2 hm
      rw [e] at this
      rw [e1, e2]
      exact this
theorem len__law_odd_word (ds : List D) (L : LHp) (Q : DK) (E : XD) (h : sp__law_odd_word ds L Q E) : ds.length = 2 := by obtain ⟨B, c, n, rfl, _⟩ := h; rfl
end K00
namespace K00
open PySem PySem.Spec PyProof.Rows L2 DV FR
local macro_rules | `(tactic| walk_at "dv") => `(tactic| (simp only [dstart, List.map_cons, List.map_nil, List.length_cons, List.length_nil, Nat.reduceAdd, Nat.reduceSub, List.reduceReplicate, List.cons_append, List.nil_append, List.append_nil,
  dSeq, dNext, dSet, dRet, dRetN, dDrop, dAsg, dgName, dgTup, dgCons, dgNil, dgSub, dPar, dIfS, dVar, dC, dOp, dCons, dNil, dCB, dB, dAnd, dOr, dNot, dAndV, dOrV, dNotV, dIf, dTup, dLst, dCall, dBM, dSl, dNoPart, dPart, dFmt, dBits,
  List.getElem?_cons_succ, List.getElem?_cons_zero, List.set_cons_succ, List.set_cons_zero, Option.some.injEq, exists_eq_left', exists_eq_left, List.cons.injEq, D.int.injEq, D.bl.injEq, D.str.injEq, D.tup.injEq, D.ref.injEq, D.fls.injEq, and_true, true_and, and_assoc,
  if_true, if_false, Bool.false_eq_true, exists_const, exists_eq', exists_and_left, exists_and_right, List.length_singleton, ite_true, ite_false, Bool.not_true, Bool.not_false, reduceCtorEq, false_and, exists_false, Bool.false_xor, Bool.true_xor,
  ty_non, ty_bl, ty_int, ty_str, ty_tup, k01, k02, k03, k04, k05, k06, k07, k08, k09, k10, k11, k12, k13, k14, k15, k16, k17, k18, k19, k20, k21, k22, k23, k24, k25,
  rI2, DV.rIxD, rAddD, rLenD, rIsiD, rI2C, rEqv, rSlD, rIntD, rStrD, rAbsD, rIsND, rAppD, rPopD, rInsD, rFindD, tyM]))
local macro_rules | `(tactic| walk_at "dw") => `(tactic| simp only [at0, at1, Option.some.injEq, exists_eq_left', exists_eq_left, and_true, true_and, and_assoc, exists_eq', exists_and_left, exists_and_right])
local macro_rules | `(tactic| walk_at "bx") => `(tactic| ((first | refine ⟨?ds, Or.inl ?h1, ?x, ?h2, ?h3⟩ | refine ⟨?ds, ?h1, ?x, ?h2, ?h3⟩); (case h1 => first | assumption | exact lupd_same); (case h2 => rfl)))
def cnt (rs : List Rat) (q : Rat) : Nat := (rs.filter (fun r => decide (r < q))).length
def insO (rs : List Rat) (q : Rat) : List Rat := rs.take (cnt rs q) ++ [q] ++ rs.drop (cnt rs q)
theorem cnt_cons (a : Rat) (rs : List Rat) (q : Rat) : cnt (a :: rs) q = if a < q then cnt rs q + 1 else cnt rs q := by
  unfold cnt
  rw [List.filter_cons]
  by_cases h : a < q
  · rw [decide_eq_true h, if_pos rfl, if_pos h, List.length_cons]
  · rw [decide_eq_false h, if_neg (by decide), if_neg h]
theorem cnt_le (rs : List Rat) (q : Rat) : cnt rs q ≤ rs.length := List.length_filter_le _ _
theorem cnt_zero {rs : List Rat} {q : Rat} (h : ∀ r ∈ rs, ¬ r < q) : cnt rs q = 0 := by
  unfold cnt
  rw [List.filter_eq_nil_iff.mpr (fun r hr => by rw [decide_eq_false (h r hr)]; decide)]
  rfl
theorem insO_perm (rs : List Rat) (q : Rat) : (insO rs q).Perm (rs ++ [q]) := by
  unfold insO
  have h1 : (rs.take (cnt rs q) ++ [q] ++ rs.drop (cnt rs q)).Perm (rs.take (cnt rs q) ++ (rs.drop (cnt rs q) ++ [q])) := by
    rw [List.append_assoc]
    exact List.Perm.append_left _ List.perm_append_comm
  rw [← List.append_assoc, List.take_append_drop] at h1
  exact h1
theorem insO_sorted : ∀ (rs : List Rat) (q : Rat), rs.Pairwise (· ≤ ·) → (insO rs q).Pairwise (· ≤ ·)
  | [], q, _ => by simp [insO, cnt]
  | a :: rs, q, h => by
    rw [List.pairwise_cons] at h
    by_cases ha : a < q
    · have e : insO (a :: rs) q = a :: insO rs q := by
        unfold insO
        rw [cnt_cons, if_pos ha]
        rfl
      rw [e, List.pairwise_cons]
      refine ⟨fun r hr => ?_, insO_sorted rs q h.2⟩
      have := (insO_perm rs q).mem_iff.mp hr
      rw [List.mem_append, List.mem_singleton] at this
      rcases this with h1 | h1
      · exact h.1 r h1
      · rw [h1]; exact Rat.le_of_lt ha
    · have qa : q ≤ a := Rat.not_lt.mp ha
      have all : ∀ r ∈ a :: rs, ¬ r < q := fun r hr => by
        rcases List.mem_cons.mp hr with h1 | h1
        · rw [h1]; exact ha
        · exact Rat.not_lt.mpr (Rat.le_trans qa (h.1 r h1))
      have e : insO (a :: rs) q = q :: a :: rs := by
        unfold insO
        rw [cnt_zero all]
        rfl
      rw [e, List.pairwise_cons]
      exact ⟨fun r hr => Rat.not_lt.mp (all r hr), List.pairwise_cons.mpr h⟩
theorem filter_take {rs : List Rat} {q r : Rat} {i : Nat} (h : rs[i]? = some r) : (rs.take (i + 1)).filter (fun x => decide (x < q)) = (rs.take i).filter (fun x => decide (x < q)) ++ (if r < q then [r] else []) := by
  rw [take_snoc h, List.filter_append]
  congr 1
  by_cases hh : r < q
  · simp [hh]
  · simp [hh]
theorem rd__law_in_order (ds : List D) (L : LHp) (Q : DK) (E : XD) (h : sp__law_in_order ds L Q E) : d__law_in_order { nx := fun _ L' => Q .non L', rt := Q } (dstart ["things", "found", "one", "other"] ds) L := by
  obtain ⟨t, qs, rfl, hl, hb, h9, hQ⟩ := h
  unfold d__law_in_order dForL
  walk_at "dv"
  refine ⟨by decide, fun p hp => ?_⟩
  have g1 : Gr L (lupd L p (.lst [])) := Gr.new hp
  have ntp : t ≠ p := fun z => by rw [← z, hl] at hp; cases hp
  refine ⟨_, .inl (g1 _ _ hl), fun i τ L' => ∃ (rs : List Rat) (y : Option D), τ = [some (.ref t), some (.ref p), y, none] ∧ Fracs L' p rs ∧ rs.Perm (qs.take i) ∧ rs.Pairwise (· ≤ ·) ∧ Gr L L' ∧ rs.length ≤ i, ⟨[], _, rfl, lupd_same, by simp, by simp, g1, by simp⟩, fun i τ L' hi ⟨rs, y, ey, e1, pm, so, g, ln⟩ => .inl (g _ _ hl), fun i d τ L' hd ⟨rs, y, ey, e1, pm, so, g, ln⟩ => ?_, fun τ L' ⟨rs, y, ey, e1, pm, so, g, ln⟩ => ?_⟩
  · subst ey
    rw [List.getElem?_map] at hd
    obtain ⟨q, gq, rfl⟩ := Option.map_eq_some_iff.mp hd
    have hi : i < qs.length := (List.getElem?_eq_some_iff.mp gq).1
    have hq := hb q (List.mem_of_getElem? gq)
    walk_at "dv"
    refine ⟨⟨_, .inl e1⟩, ?_⟩
    unfold dLcL
    walk_at "dv"
    refine ⟨_, .inl e1, fun E hE => ?_⟩
    have npE : p ≠ E := fun z => by rw [← z, e1] at hE; cases hE
    refine ⟨fun k L2 => L2 = lupd L' E (.lst (((rs.take k).filter (fun x => decide (x < q))).map fr)), rfl, fun k L2 hk e => ?_, fun k d2 L2 hd2 e => ?_, fun L2 e => ?_⟩
    · subst e
      exact .inl (by rw [lupd_ne npE]; exact e1)
    · subst e
      rw [List.getElem?_map] at hd2
      obtain ⟨r, gr, rfl⟩ := Option.map_eq_some_iff.mp hd2
      have hr : Bd 130 r := hb r (List.mem_of_mem_take (pm.mem_iff.mp (List.mem_of_getElem? gr)))
      unfold lcTurn
      walk_at "dv"
      refine ⟨130, r, q, rfl, hr, hq, by decide, ?_⟩
      rw [filter_take gr]
      by_cases hh : r < q
      · rw [decide_eq_true hh, if_pos hh]
        refine ⟨_, rfl, iteT ⟨_, lupd_same, ?_, ?_⟩⟩
        · rw [List.length_map]
          have := List.length_filter_le (fun x => decide (x < q)) (rs.take k)
          rw [List.length_take] at this
          exact Nat.lt_of_le_of_lt (show _ ≤ 9 by omega) (by decide)
        · rw [lupd_lupd, List.map_append]
          rfl
      · rw [decide_eq_false hh, if_neg hh, List.append_nil]
        exact ⟨_, rfl, iteF rfl⟩
    · subst e
      rw [List.length_map, List.take_length]
      have hc := cnt_le rs q
      refine ⟨_, .inl lupd_same, _, by rw [lupd_ne npE]; exact e1, ?_, ?_, ?_, ?_⟩
      · rw [List.length_map]
        exact Nat.lt_of_le_of_lt (show _ ≤ 9 by omega) (by decide)
      · exact Int.natCast_nonneg _
      · rw [List.length_map]
        show ((cnt rs q : Nat) : Int) < _
        exact Int.lt_of_lt_of_le (show ((cnt rs q : Nat) : Int) < 10 by omega) (by decide)
      · refine ⟨insO rs q, ?_, ?_, insO_sorted rs q so, ?_, ?_⟩
        · show lupd _ p _ p = _
          rw [lupd_same, List.length_map]
          show some (LO.lst (List.take ((cnt rs q : Nat) : Int).toNat _ ++ _ ++ List.drop ((cnt rs q : Nat) : Int).toNat _)) = _
          rw [Int.toNat_natCast]
          unfold insO
          rw [List.map_append, List.map_append, List.map_take, List.map_drop]
          rfl
        · rw [take_snoc gq]
          exact (insO_perm rs q).trans (pm.append_right _)
        · intro a o e
          have nap : a ≠ p := fun z => by rw [z, hp] at e; cases e
          have naE : a ≠ E := fun z => by rw [← z, g a o e] at hE; cases hE
          rw [lupd_ne nap, lupd_ne naE]
          exact g a o e
        · rw [(insO_perm rs q).length_eq, List.length_append]
          simp
          omega
  · subst ey
    walk_at "dv"
    rw [List.length_map, List.take_length] at pm
    exact hQ p rs L' hp g e1 pm so
theorem len__law_in_order (ds : List D) (L : LHp) (Q : DK) (E : XD) (h : sp__law_in_order ds L Q E) : ds.length = 1 := by obtain ⟨B, c, rfl, _⟩ := h; rfl
theorem rd__law_each_two (ds : List D) (L : LHp) (Q : DK) (E : XD) (h : sp__law_each_two ds L Q E) : d__law_each_two { nx := fun _ L' => Q .non L', rt := Q } (dstart ["bag", "things", "one", "other", "due", "far", "told"] ds) L := by
  obtain ⟨b, c, t, qs, rfl, B, ne, hl, hb, hQ⟩ := h
  unfold d__law_each_two dForL
  walk_at "dv"
  refine ⟨_, .inl hl, fun i τ L' => (∃ y2 y3 y4 y5 y6, τ = [some (.ref b), some (.ref t), y2, y3, y4, y5, y6]) ∧ Dr b c L L', ⟨⟨_, _, _, _, _, rfl⟩, Dr.refl B⟩, fun i τ L' hi ⟨_, dr⟩ => dr.rd ne (.inl hl), fun i d τ L' hd ⟨⟨y2, y3, y4, y5, y6, ey⟩, dr⟩ => ?_, fun τ L' ⟨_, dr⟩ => hQ L' dr⟩
  subst ey
  rw [List.getElem?_map] at hd
  obtain ⟨q, gq, rfl⟩ := Option.map_eq_some_iff.mp hd
  have hq := hb q (List.mem_of_getElem? gq)
  walk_at "dv"
  refine ⟨b, c, q, rfl, dr.ok, hq, fun d1 L1 dr1 r1 => ⟨_, q, rfl, r1.mono (by decide), _, rfl, .two _ _, fun L2 g2 => ?_⟩⟩
  refine ⟨true, rfl, iteF ?_⟩
  have drA := (dr.trans dr1).gr g2
  refine ⟨_, drA.rd ne (.inl hl), fun i τ L' => (∃ y3 y4 y5 y6, τ = [some (.ref b), some (.ref t), some (fr q), y3, y4, y5, y6]) ∧ Dr b c L L', ⟨⟨_, _, _, _, rfl⟩, drA⟩, fun i τ L' hi ⟨_, dr⟩ => dr.rd ne (.inl hl), fun i d τ L' hd ⟨⟨y3, y4, y5, y6, ey⟩, dr⟩ => ?_, fun τ L' ⟨⟨y3, y4, y5, y6, ey⟩, dr⟩ => ⟨⟨_, _, _, _, _, ey⟩, dr⟩⟩
  subst ey
  rw [List.getElem?_map] at hd
  obtain ⟨p, gp, rfl⟩ := Option.map_eq_some_iff.mp hd
  have hp := hb p (List.mem_of_getElem? gp)
  walk_at "dv"
  refine ⟨130, q, p, rfl, hq, hp, by decide, 130, q, p, rfl, hq, hp, by decide, b, c, q, rfl, dr.ok, hq, fun da La dra ra => ⟨b, c, p, rfl, dra.ok, hp, fun db Lb drb rb => ⟨da, db, 170, q, p, rfl, ra, rb, by decide, _, rfl, .sc (.bl _), fun Lc gc => ⟨true, rfl, iteF ?_⟩⟩⟩⟩
  have drc := (dra.trans drb).gr gc
  refine ⟨b, c, q, rfl, drc.ok, hq, fun de Le dre re => ⟨b, c, p, rfl, dre.ok, hp, fun df Lf drf rf => ⟨de, df, 170, q, p, rfl, re, rf, by decide, _, rfl, .two _ _, fun Lg gg => ⟨true, rfl, iteF ?_⟩⟩⟩⟩
  exact ((dr.trans drc).trans (dre.trans drf)).gr gg
theorem len__law_each_two (ds : List D) (L : LHp) (Q : DK) (E : XD) (h : sp__law_each_two ds L Q E) : ds.length = 2 := by obtain ⟨B, c, n, q, rfl, _⟩ := h; rfl
end K00
namespace K00
open PySem PySem.Spec PyProof.Rows L2 DV FR
local macro_rules | `(tactic| walk_at "dv") => `(tactic| (simp only [dstart, List.map_cons, List.map_nil, List.length_cons, List.length_nil, Nat.reduceAdd, Nat.reduceSub, List.reduceReplicate, List.cons_append, List.nil_append, List.append_nil,
  dSeq, dNext, dSet, dRet, dRetN, dDrop, dAsg, dgName, dgTup, dgCons, dgNil, dgSub, dPar, dIfS, dVar, dC, dOp, dCons, dNil, dCB, dB, dAnd, dOr, dNot, dAndV, dOrV, dNotV, dIf, dTup, dLst, dCall, dBM, dSl, dNoPart, dPart, dFmt, dBits,
  List.getElem?_cons_succ, List.getElem?_cons_zero, List.set_cons_succ, List.set_cons_zero, Option.some.injEq, exists_eq_left', exists_eq_left, List.cons.injEq, D.int.injEq, D.bl.injEq, D.str.injEq, D.tup.injEq, D.ref.injEq, D.fls.injEq, and_true, true_and, and_assoc,
  if_true, if_false, Bool.false_eq_true, exists_const, exists_eq', exists_and_left, exists_and_right, List.length_singleton, ite_true, ite_false, Bool.not_true, Bool.not_false, reduceCtorEq, false_and, exists_false, Bool.false_xor, Bool.true_xor,
  ty_non, ty_bl, ty_int, ty_str, ty_tup, k01, k02, k03, k04, k05, k06, k07, k08, k09, k10, k11, k12, k13, k14, k15, k16, k17, k18, k19, k20, k21, k22, k23, k24, k25,
  rI2, DV.rIxD, rAddD, rLenD, rIsiD, rI2C, rEqv, rSlD, rIntD, rStrD, rAbsD, rIsND, rAppD, rPopD, rInsD, rFindD, tyM]))
local macro_rules | `(tactic| walk_at "dw") => `(tactic| simp only [at0, at1, Option.some.injEq, exists_eq_left', exists_eq_left, and_true, true_and, and_assoc, exists_eq', exists_and_left, exists_and_right])
local macro_rules | `(tactic| walk_at "bx") => `(tactic| ((first | refine ⟨?ds, Or.inl ?h1, ?x, ?h2, ?h3⟩ | refine ⟨?ds, ?h1, ?x, ?h2, ?h3⟩); (case h1 => first | assumption | exact lupd_same); (case h2 => rfl)))
theorem raw_ok {B : Nat} {d : D} {q : Rat} (h : Raw B d q) : okL [d] := by
  cases h with
  | int n => exact ⟨rfl, rfl⟩
  | pair t b => exact ⟨rfl, rfl⟩
theorem LRd.imp2 {L : LHp} {t p : Addr} {o : LO} {xs : List D} (ne : t ≠ p) (h : LRd L t xs) : LRd (lupd L p o) t xs := h.imp (fun h => by rw [lupd_ne ne]; exact h) (fun h => by rw [lupd_ne ne]; exact h)
theorem fin_plus {B : Nat} {xs : List D} {qs : List Rat} {L L' : LHp} {Q : DK} (r : RawL B xs qs) (h : xs.length ≤ 9) (hB : (B + 1) * 9 + 1 ≤ 8000) (g : Gr L L') (hQ : ∀ L', Gr L L' → Q (fr (rsum qs)) L') : sp_plus xs L' Q ED0 :=
  ⟨Nat.le_trans h (by decide), xs, B, qs, rfl, r, Nat.le_trans (Nat.add_le_add_right (Nat.mul_le_mul_left _ h) 1) hB, hQ L' g⟩
theorem rd__law_plus (ds : List D) (L : LHp) (Q : DK) (E : XD) (h : sp__law_plus ds L Q E) : d__law_plus { nx := fun _ L' => Q .non L', rt := Q } (dstart ["raws"] ds) L := by
  obtain ⟨t, B, xs, qs, rfl, hl, r, h9, hB, hQ⟩ := h
  unfold d__law_plus
  walk_at "dv"
  rcases r with _ | ⟨r1, r⟩
  · refine ⟨_, hl, iteT ⟨by decide, fun p hp => ?_⟩⟩
    have ne : t ≠ p := fun z => by subst z; rcases hl with h | h <;> rw [hp] at h <;> cases h
    exact ⟨[], hl.imp (fun h => by rw [lupd_ne ne]; exact h) (fun h => by rw [lupd_ne ne]; exact h), [], .inl lupd_same, ⟨rfl, by decide +kernel⟩, ⟨rfl, by decide +kernel⟩, iteT (fin_plus RawL.nil (by decide) hB (Gr.new hp) hQ)⟩
  rcases r with _ | ⟨r2, r⟩
  · refine ⟨_, hl, iteT ⟨by decide, fun p hp => ?_⟩⟩
    have ne : t ≠ p := fun z => by subst z; rcases hl with h | h <;> rw [hp] at h <;> cases h
    exact ⟨_, LRd.imp2 ne hl, [], .inl lupd_same, raw_ok r1, ⟨rfl, by decide +kernel⟩, iteF ⟨_, LRd.imp2 ne hl, _, at_gen (j := 0) rfl rfl, fin_plus (RawL.cons r1 RawL.nil) (show 1 ≤ 9 by decide) hB (Gr.new hp) hQ⟩⟩
  rcases r with _ | ⟨r3, r⟩
  · exact ⟨_, hl, iteF ⟨_, hl, iteT ⟨_, hl, _, at_gen (j := 0) rfl rfl, ⟨_, hl, _, at_gen (j := 1) rfl rfl, fin_plus (RawL.cons r1 (RawL.cons r2 RawL.nil)) (show 2 ≤ 9 by decide) hB Gr.refl hQ⟩⟩⟩⟩
  rcases r with _ | ⟨r4, r⟩
  · exact ⟨_, hl, iteF ⟨_, hl, iteF ⟨_, hl, iteT ⟨_, hl, _, at_gen (j := 0) rfl rfl, ⟨_, hl, _, at_gen (j := 1) rfl rfl, ⟨_, hl, _, at_gen (j := 2) rfl rfl, fin_plus (RawL.cons r1 (RawL.cons r2 (RawL.cons r3 RawL.nil))) (show 3 ≤ 9 by decide) hB Gr.refl hQ⟩⟩⟩⟩⟩⟩
  rcases r with _ | ⟨r5, r⟩
  · exact ⟨_, hl, iteF ⟨_, hl, iteF ⟨_, hl, iteF ⟨_, hl, iteT ⟨_, hl, _, at_gen (j := 0) rfl rfl, ⟨_, hl, _, at_gen (j := 1) rfl rfl, ⟨_, hl, _, at_gen (j := 2) rfl rfl, ⟨_, hl, _, at_gen (j := 3) rfl rfl, fin_plus (RawL.cons r1 (RawL.cons r2 (RawL.cons r3 (RawL.cons r4 RawL.nil)))) (show 4 ≤ 9 by decide) hB Gr.refl hQ⟩⟩⟩⟩⟩⟩⟩⟩
  rcases r with _ | ⟨r6, r⟩
  · exact ⟨_, hl, iteF ⟨_, hl, iteF ⟨_, hl, iteF ⟨_, hl, iteF ⟨_, hl, iteT ⟨_, hl, _, at_gen (j := 0) rfl rfl, ⟨_, hl, _, at_gen (j := 1) rfl rfl, ⟨_, hl, _, at_gen (j := 2) rfl rfl, ⟨_, hl, _, at_gen (j := 3) rfl rfl, ⟨_, hl, _, at_gen (j := 4) rfl rfl, fin_plus (RawL.cons r1 (RawL.cons r2 (RawL.cons r3 (RawL.cons r4 (RawL.cons r5 RawL.nil))))) (show 5 ≤ 9 by decide) hB Gr.refl hQ⟩⟩⟩⟩⟩⟩⟩⟩⟩⟩
  rcases r with _ | ⟨r7, r⟩
  · exact ⟨_, hl, iteF ⟨_, hl, iteF ⟨_, hl, iteF ⟨_, hl, iteF ⟨_, hl, iteF ⟨_, hl, iteT ⟨_, hl, _, at_gen (j := 0) rfl rfl, ⟨_, hl, _, at_gen (j := 1) rfl rfl, ⟨_, hl, _, at_gen (j := 2) rfl rfl, ⟨_, hl, _, at_gen (j := 3) rfl rfl, ⟨_, hl, _, at_gen (j := 4) rfl rfl, ⟨_, hl, _, at_gen (j := 5) rfl rfl, fin_plus (RawL.cons r1 (RawL.cons r2 (RawL.cons r3 (RawL.cons r4 (RawL.cons r5 (RawL.cons r6 RawL.nil)))))) (show 6 ≤ 9 by decide) hB Gr.refl hQ⟩⟩⟩⟩⟩⟩⟩⟩⟩⟩⟩⟩
  rcases r with _ | ⟨r8, r⟩
  · exact ⟨_, hl, iteF ⟨_, hl, iteF ⟨_, hl, iteF ⟨_, hl, iteF ⟨_, hl, iteF ⟨_, hl, iteF ⟨_, hl, iteT ⟨_, hl, _, at_gen (j := 0) rfl rfl, ⟨_, hl, _, at_gen (j := 1) rfl rfl, ⟨_, hl, _, at_gen (j := 2) rfl rfl, ⟨_, hl, _, at_gen (j := 3) rfl rfl, ⟨_, hl, _, at_gen (j := 4) rfl rfl, ⟨_, hl, _, at_gen (j := 5) rfl rfl, ⟨_, hl, _, at_gen (j := 6) rfl rfl, fin_plus (RawL.cons r1 (RawL.cons r2 (RawL.cons r3 (RawL.cons r4 (RawL.cons r5 (RawL.cons r6 (RawL.cons r7 RawL.nil))))))) (show 7 ≤ 9 by decide) hB Gr.refl hQ⟩⟩⟩⟩⟩⟩⟩⟩⟩⟩⟩⟩⟩⟩
  rcases r with _ | ⟨r9, r⟩
  · exact ⟨_, hl, iteF ⟨_, hl, iteF ⟨_, hl, iteF ⟨_, hl, iteF ⟨_, hl, iteF ⟨_, hl, iteF ⟨_, hl, iteF ⟨_, hl, iteT ⟨_, hl, _, at_gen (j := 0) rfl rfl, ⟨_, hl, _, at_gen (j := 1) rfl rfl, ⟨_, hl, _, at_gen (j := 2) rfl rfl, ⟨_, hl, _, at_gen (j := 3) rfl rfl, ⟨_, hl, _, at_gen (j := 4) rfl rfl, ⟨_, hl, _, at_gen (j := 5) rfl rfl, ⟨_, hl, _, at_gen (j := 6) rfl rfl, ⟨_, hl, _, at_gen (j := 7) rfl rfl, fin_plus (RawL.cons r1 (RawL.cons r2 (RawL.cons r3 (RawL.cons r4 (RawL.cons r5 (RawL.cons r6 (RawL.cons r7 (RawL.cons r8 RawL.nil)))))))) (show 8 ≤ 9 by decide) hB Gr.refl hQ⟩⟩⟩⟩⟩⟩⟩⟩⟩⟩⟩⟩⟩⟩⟩⟩
  rcases r with _ | ⟨r10, r⟩
  · exact ⟨_, hl, iteF ⟨_, hl, iteF ⟨_, hl, iteF ⟨_, hl, iteF ⟨_, hl, iteF ⟨_, hl, iteF ⟨_, hl, iteF ⟨_, hl, iteF ⟨_, hl, _, at_gen (j := 0) rfl rfl, ⟨_, hl, _, at_gen (j := 1) rfl rfl, ⟨_, hl, _, at_gen (j := 2) rfl rfl, ⟨_, hl, _, at_gen (j := 3) rfl rfl, ⟨_, hl, _, at_gen (j := 4) rfl rfl, ⟨_, hl, _, at_gen (j := 5) rfl rfl, ⟨_, hl, _, at_gen (j := 6) rfl rfl, ⟨_, hl, _, at_gen (j := 7) rfl rfl, ⟨_, hl, _, at_gen (j := 8) rfl rfl, fin_plus (RawL.cons r1 (RawL.cons r2 (RawL.cons r3 (RawL.cons r4 (RawL.cons r5 (RawL.cons r6 (RawL.cons r7 (RawL.cons r8 (RawL.cons r9 RawL.nil))))))))) (show 9 ≤ 9 by decide) hB Gr.refl hQ⟩⟩⟩⟩⟩⟩⟩⟩⟩⟩⟩⟩⟩⟩⟩⟩⟩
  exact absurd h9 (by simp only [List.length_cons]; omega)
theorem len__law_plus (ds : List D) (L : LHp) (Q : DK) (E : XD) (h : sp__law_plus ds L Q E) : ds.length = 1 := by obtain ⟨B, c, n, q, rfl, _⟩ := h; rfl
theorem fin_times {B : Nat} {xs : List D} {qs : List Rat} {L L' : LHp} {Q : DK} (r : RawL B xs qs) (h : xs.length ≤ 9) (hB : (B + 1) * 9 + 1 ≤ 8000) (g : Gr L L') (hQ : ∀ L', Gr L L' → Q (fr (rprod qs)) L') : sp_times xs L' Q ED0 :=
  ⟨Nat.le_trans h (by decide), xs, B, qs, rfl, r, Nat.le_trans (Nat.add_le_add_right (Nat.mul_le_mul_left _ h) 1) hB, hQ L' g⟩
theorem rd__law_times (ds : List D) (L : LHp) (Q : DK) (E : XD) (h : sp__law_times ds L Q E) : d__law_times { nx := fun _ L' => Q .non L', rt := Q } (dstart ["raws"] ds) L := by
  obtain ⟨t, B, xs, qs, rfl, hl, r, h9, hB, hQ⟩ := h
  unfold d__law_times
  walk_at "dv"
  rcases r with _ | ⟨r1, r⟩
  · refine ⟨_, hl, iteT ⟨by decide, fun p hp => ?_⟩⟩
    have ne : t ≠ p := fun z => by subst z; rcases hl with h | h <;> rw [hp] at h <;> cases h
    exact ⟨[], hl.imp (fun h => by rw [lupd_ne ne]; exact h) (fun h => by rw [lupd_ne ne]; exact h), [], .inl lupd_same, ⟨rfl, by decide +kernel⟩, ⟨rfl, by decide +kernel⟩, iteT (fin_times RawL.nil (by decide) hB (Gr.new hp) hQ)⟩
  rcases r with _ | ⟨r2, r⟩
  · refine ⟨_, hl, iteT ⟨by decide, fun p hp => ?_⟩⟩
    have ne : t ≠ p := fun z => by subst z; rcases hl with h | h <;> rw [hp] at h <;> cases h
    exact ⟨_, LRd.imp2 ne hl, [], .inl lupd_same, raw_ok r1, ⟨rfl, by decide +kernel⟩, iteF ⟨_, LRd.imp2 ne hl, _, at_gen (j := 0) rfl rfl, fin_times (RawL.cons r1 RawL.nil) (show 1 ≤ 9 by decide) hB (Gr.new hp) hQ⟩⟩
  rcases r with _ | ⟨r3, r⟩
  · exact ⟨_, hl, iteF ⟨_, hl, iteT ⟨_, hl, _, at_gen (j := 0) rfl rfl, ⟨_, hl, _, at_gen (j := 1) rfl rfl, fin_times (RawL.cons r1 (RawL.cons r2 RawL.nil)) (show 2 ≤ 9 by decide) hB Gr.refl hQ⟩⟩⟩⟩
  rcases r with _ | ⟨r4, r⟩
  · exact ⟨_, hl, iteF ⟨_, hl, iteF ⟨_, hl, iteT ⟨_, hl, _, at_gen (j := 0) rfl rfl, ⟨_, hl, _, at_gen (j := 1) rfl rfl, ⟨_, hl, _, at_gen (j := 2) rfl rfl, fin_times (RawL.cons r1 (RawL.cons r2 (RawL.cons r3 RawL.nil))) (show 3 ≤ 9 by decide) hB Gr.refl hQ⟩⟩⟩⟩⟩⟩
  rcases r with _ | ⟨r5, r⟩
  · exact ⟨_, hl, iteF ⟨_, hl, iteF ⟨_, hl, iteF ⟨_, hl, iteT ⟨_, hl, _, at_gen (j := 0) rfl rfl, ⟨_, hl, _, at_gen (j := 1) rfl rfl, ⟨_, hl, _, at_gen (j := 2) rfl rfl, ⟨_, hl, _, at_gen (j := 3) rfl rfl, fin_times (RawL.cons r1 (RawL.cons r2 (RawL.cons r3 (RawL.cons r4 RawL.nil)))) (show 4 ≤ 9 by decide) hB Gr.refl hQ⟩⟩⟩⟩⟩⟩⟩⟩
  rcases r with _ | ⟨r6, r⟩
  · exact ⟨_, hl, iteF ⟨_, hl, iteF ⟨_, hl, iteF ⟨_, hl, iteF ⟨_, hl, iteT ⟨_, hl, _, at_gen (j := 0) rfl rfl, ⟨_, hl, _, at_gen (j := 1) rfl rfl, ⟨_, hl, _, at_gen (j := 2) rfl rfl, ⟨_, hl, _, at_gen (j := 3) rfl rfl, ⟨_, hl, _, at_gen (j := 4) rfl rfl, fin_times (RawL.cons r1 (RawL.cons r2 (RawL.cons r3 (RawL.cons r4 (RawL.cons r5 RawL.nil))))) (show 5 ≤ 9 by decide) hB Gr.refl hQ⟩⟩⟩⟩⟩⟩⟩⟩⟩⟩
  rcases r with _ | ⟨r7, r⟩
  · exact ⟨_, hl, iteF ⟨_, hl, iteF ⟨_, hl, iteF ⟨_, hl, iteF ⟨_, hl, iteF ⟨_, hl, iteT ⟨_, hl, _, at_gen (j := 0) rfl rfl, ⟨_, hl, _, at_gen (j := 1) rfl rfl, ⟨_, hl, _, at_gen (j := 2) rfl rfl, ⟨_, hl, _, at_gen (j := 3) rfl rfl, ⟨_, hl, _, at_gen (j := 4) rfl rfl, ⟨_, hl, _, at_gen (j := 5) rfl rfl, fin_times (RawL.cons r1 (RawL.cons r2 (RawL.cons r3 (RawL.cons r4 (RawL.cons r5 (RawL.cons r6 RawL.nil)))))) (show 6 ≤ 9 by decide) hB Gr.refl hQ⟩⟩⟩⟩⟩⟩⟩⟩⟩⟩⟩⟩
  rcases r with _ | ⟨r8, r⟩
  · exact ⟨_, hl, iteF ⟨_, hl, iteF ⟨_, hl, iteF ⟨_, hl, iteF ⟨_, hl, iteF ⟨_, hl, iteF ⟨_, hl, _, at_gen (j := 0) rfl rfl, ⟨_, hl, _, at_gen (j := 1) rfl rfl, ⟨_, hl, _, at_gen (j := 2) rfl rfl, ⟨_, hl, _, at_gen (j := 3) rfl rfl, ⟨_, hl, _, at_gen (j := 4) rfl rfl, ⟨_, hl, _, at_gen (j := 5) rfl rfl, ⟨_, hl, _, at_gen (j := 6) rfl rfl, fin_times (RawL.cons r1 (RawL.cons r2 (RawL.cons r3 (RawL.cons r4 (RawL.cons r5 (RawL.cons r6 (RawL.cons r7 RawL.nil))))))) (show 7 ≤ 9 by decide) hB Gr.refl hQ⟩⟩⟩⟩⟩⟩⟩⟩⟩⟩⟩⟩⟩
  exact absurd h9 (by simp only [List.length_cons]; omega)
theorem len__law_times (ds : List D) (L : LHp) (Q : DK) (E : XD) (h : sp__law_times ds L Q E) : ds.length = 1 := by obtain ⟨B, c, n, q, rfl, _⟩ := h; rfl
end K00
namespace K00
open PySem PySem.Spec PyProof.Rows L2 DV FR
local macro_rules | `(tactic| walk_at "dv") => `(tactic| (simp only [dstart, List.map_cons, List.map_nil, List.length_cons, List.length_nil, Nat.reduceAdd, Nat.reduceSub, List.reduceReplicate, List.cons_append, List.nil_append, List.append_nil,
  dSeq, dNext, dSet, dRet, dRetN, dDrop, dAsg, dgName, dgTup, dgCons, dgNil, dgSub, dPar, dIfS, dVar, dC, dOp, dCons, dNil, dCB, dB, dAnd, dOr, dNot, dAndV, dOrV, dNotV, dIf, dTup, dLst, dCall, dBM, dSl, dNoPart, dPart, dFmt, dBits,
  List.getElem?_cons_succ, List.getElem?_cons_zero, List.set_cons_succ, List.set_cons_zero, Option.some.injEq, exists_eq_left', exists_eq_left, List.cons.injEq, D.int.injEq, D.bl.injEq, D.str.injEq, D.tup.injEq, D.ref.injEq, D.fls.injEq, and_true, true_and, and_assoc,
  if_true, if_false, Bool.false_eq_true, exists_const, exists_eq', exists_and_left, exists_and_right, List.length_singleton, ite_true, ite_false, Bool.not_true, Bool.not_false, reduceCtorEq, false_and, exists_false, Bool.false_xor, Bool.true_xor,
  ty_non, ty_bl, ty_int, ty_str, ty_tup, k01, k02, k03, k04, k05, k06, k07, k08, k09, k10, k11, k12, k13, k14, k15, k16, k17, k18, k19, k20, k21, k22, k23, k24, k25,
  rI2, DV.rIxD, rAddD, rLenD, rIsiD, rI2C, rEqv, rSlD, rIntD, rStrD, rAbsD, rIsND, rAppD, rPopD, rInsD, rFindD, tyM]))
local macro_rules | `(tactic| walk_at "dw") => `(tactic| simp only [at0, at1, Option.some.injEq, exists_eq_left', exists_eq_left, and_true, true_and, and_assoc, exists_eq', exists_and_left, exists_and_right])
local macro_rules | `(tactic| walk_at "bx") => `(tactic| ((first | refine ⟨?ds, Or.inl ?h1, ?x, ?h2, ?h3⟩ | refine ⟨?ds, ?h1, ?x, ?h2, ?h3⟩); (case h1 => first | assumption | exact lupd_same); (case h2 => rfl)))
def d_thturn : DS :=
    (dSeq (dSet 6 (dCall sp__law_draw ED0 (dCons (dVar 0) (dCons (dC (.int 6)) dNil))))
      (dIfS (dB (dOp (rEqv false) (dVar 6) (dC (.int 0))))
      (dDrop (dBM "list" rAppD (dVar 4) (dCons (dOp rIxD (dVar 4) (dCall sp__law_draw ED0 (dCons (dVar 0) (dCons (dCB rLenD (dCons (dVar 4) dNil)) dNil)))) dNil)))
      (dIfS (dB (dOp (rEqv false) (dVar 6) (dC (.int 1))))
      (dDrop (dBM "list" rAppD (dVar 4) (dCons (dTup (dCons (dCall sp__law_of ED0 (dCons (dVar 0) (dCons (dLst (dCons (dC (.int 0)) (dCons (dC (.int 0)) (dCons (dC (.int 1)) (dCons (dC (.int 5)) (dCons (dOp rPowD (dC (.int 10)) (dC (.int 29))) dNil)))))) dNil))) (dCons (dC (.int 1)) dNil))) dNil)))
      (dIfS (dB (dOp (rEqv false) (dVar 6) (dC (.int 2))))
      (dSeq (dSet 7 (dOp rIxD (dVar 4) (dCall sp__law_draw ED0 (dCons (dVar 0) (dCons (dCB rLenD (dCons (dVar 4) dNil)) dNil)))))
      (dDrop (dBM "list" rAppD (dVar 4) (dCons (dCall sp__law_pair ED0 (dCons (dOp rAddD (dOp rMulD (dOp rIxD (dVar 7) (dC (.int 0))) (dC (.int 3))) (dC (.int 1))) (dCons (dOp rMulD (dOp rIxD (dVar 7) (dC (.int 1))) (dC (.int 3))) dNil))) dNil))))
      (dIfS (dB (dOp (rEqv false) (dVar 6) (dC (.int 3))))
      (dDrop (dBM "list" rAppD (dVar 4) (dCons (dCall sp__law_pair ED0 (dCons (dCall sp__law_draw ED0 (dCons (dVar 0) (dCons (dOp rPowD (dC (.int 10)) (dC (.int 30))) dNil))) (dCons (dOp rAddD (dC (.int 1)) (dCall sp__law_draw ED0 (dCons (dVar 0) (dCons (dOp rPowD (dC (.int 10)) (dC (.int 30))) dNil)))) dNil))) dNil)))
      (dDrop (dBM "list" rAppD (dVar 4) (dCons (dCall sp__law_pair ED0 (dCons (dCall sp__law_draw ED0 (dCons (dVar 0) (dCons (dC (.int 20)) dNil))) (dCons (dOp rAddD (dC (.int 1)) (dCall sp__law_draw ED0 (dCons (dVar 0) (dCons (dC (.int 12)) dNil)))) dNil))) dNil))))))))
def d_thend : DS :=
    (dRet (dCall sp__law_mixed ED0 (dCons (dVar 0) (dCons (dOp rAddD (dVar 4) (dLst (dCons (dCall sp__law_of ED0 (dCons (dVar 0) (dCons (dLst (dCons (dTup (dCons (dC (.int 1)) (dCons (dC (.int 3)) dNil))) (dCons (dTup (dCons (dC (.int 1)) (dCons (dC (.int 2)) dNil))) (dCons (dTup (dCons (dC (.int 0)) (dCons (dC (.int 1)) dNil))) dNil)))) dNil))) dNil))) dNil))))
def d_things2 : DS :=
    (dSeq (dSet 3 (dOp rAddD (dC (.int 1)) (dCall sp__law_draw ED0 (dCons (dVar 0) (dCons (dC (.int 7)) dNil)))))
      (dSeq (dSet 4 (dLst (dCons (dCall sp__law_pair ED0 (dCons (dVar 1) (dCons (dVar 2) dNil))) (dCons (dCall sp__law_pair ED0 (dCons (dOp rAddD (dOp rMulD (dVar 1) (dVar 3)) (dC (.int 1))) (dCons (dOp rMulD (dVar 2) (dVar 3)) dNil))) dNil))))
      (dSeq (dForR (dCons (dOp rAddD (dC (.int 1)) (dCall sp__law_draw ED0 (dCons (dVar 0) (dCons (dC (.int 6)) dNil)))) dNil) (dgName 5) d_thturn)
      d_thend)))
theorem draw_k {L : LHp} {b c : Addr} {n : Int} {Q : DK} (B : BagOk L b c) (h : 0 < n ∧ n.natAbs < 2 ^ 8000) (k : ∀ d L', (0 ≤ d ∧ d < n) → Dr b c L L' → Q (.int d) L') : sp__law_draw [.ref b, .int n] L Q ED0 :=
  ⟨b, c, n, rfl, B, h, k⟩
theorem perm_fr : ∀ {xs ys : List D}, xs.Perm ys → ∀ {qs : List Rat}, ys = qs.map fr → ∃ rs : List Rat, rs.Perm qs ∧ xs = rs.map fr := by
  intro xs ys h
  induction h with
  | nil => exact fun {qs} e => ⟨qs, List.Perm.refl _, e⟩
  | cons x h ih =>
    intro qs e
    cases qs with
    | nil => simp at e
    | cons q qs =>
      rw [List.map_cons, List.cons.injEq] at e
      obtain ⟨rs, p, e2⟩ := ih e.2
      exact ⟨q :: rs, p.cons q, by rw [List.map_cons, e2, e.1]⟩
  | swap x y l =>
    intro qs e
    match qs, e with
    | [], e => simp at e
    | [q], e => simp at e
    | q :: r :: qs, e =>
      simp only [List.map_cons, List.cons.injEq] at e
      exact ⟨r :: q :: qs, List.Perm.swap q r qs, by simp only [List.map_cons, e.1, e.2.1, e.2.2]⟩
  | trans h1 h2 ih1 ih2 =>
    intro qs e
    obtain ⟨rs, p, e2⟩ := ih2 e
    obtain ⟨us, p2, e3⟩ := ih1 e2
    exact ⟨us, p2.trans p, e3⟩
theorem near_bd {B : Nat} {q : Rat} (hq : Bd B q) : (q.num * 3 + 1).natAbs < 2 ^ (B + 2) ∧ ((q.den : Int) * 3).natAbs < 2 ^ (B + 2) := by
  have h1 := hq.top
  have h2 := hq.botI
  rw [show (2 : Nat) ^ (B + 2) = 2 ^ B * 4 by rw [Nat.pow_add]]
  omega
theorem thturn {L L0 : LHp} {b c f : Addr} {qs : List Rat} {i : Nat} {q0 q1 : Rat} {y1 y2 y3 y5 y6 y7 : Option D} {D0 : DEnds} (dr : Dr b c L0 L) (hf : Fracs L f qs) (nf : L0 f = none) (nb : f ≠ b) (nc : f ≠ c) (l2 : qs.length = 2 + i) (hi : i < 6) (hb : ∀ q ∈ qs, Bd (104 + 2 * i) q) (m0 : q0 ∈ qs) (m1 : q1 ∈ qs)
    (hQ : ∀ L' rs y6 y7, Dr b c L0 L' → Fracs L' f rs → rs.length = 2 + (i + 1) → (∀ q ∈ rs, Bd (104 + 2 * (i + 1)) q) → q0 ∈ rs → q1 ∈ rs → D0.nx [some (.ref b), y1, y2, y3, some (.ref f), y5, y6, y7] L') :
    d_thturn D0 [some (.ref b), y1, y2, y3, some (.ref f), y5, y6, y7] L := by
  have app : ∀ L2 q y6 y7, Dr b c L0 L2 → Fracs L2 f qs → Bd (104 + 2 * (i + 1)) q → ∃ xs, L2 f = some (.lst xs) ∧ xs.length < sizeLine ∧ D0.nx [some (.ref b), y1, y2, y3, some (.ref f), y5, y6, y7] (lupd L2 f (.lst (xs ++ [fr q]))) := fun L2 q y6 y7 d2 h2 hq =>
    ⟨_, h2, by rw [List.length_map, l2]; exact Nat.lt_of_le_of_lt (show _ ≤ 9 by omega) (by decide), hQ _ (qs ++ [q]) y6 y7 ⟨d2.ok.upd nb nc, fun a o na e => by
      rw [lupd_ne (fun z => by rw [z, nf] at e; cases e)]
      exact d2.kp a o na e⟩ (by unfold Fracs; rw [lupd_same, List.map_append]; rfl) (by rw [List.length_append, l2]; simp; omega) (fun r hr => by
        rcases List.mem_append.mp hr with h | h
        · exact (hb r h).mono (by omega)
        · rw [List.mem_singleton.mp h]; exact hq) (List.mem_append_left _ m0) (List.mem_append_left _ m1)⟩
  have keep : ∀ L2 L3, Dr b c L2 L3 → Fracs L2 f qs → Fracs L3 f qs := fun L2 L3 d h => d.kp _ _ nb h
  have pr : ∀ (t l : Int) (L2 : LHp) y6 y7, 0 ≤ t → 0 < l → t.natAbs < 2 ^ (104 + 2 * (i + 1)) → l.natAbs < 2 ^ (104 + 2 * (i + 1)) → Dr b c L0 L2 → Fracs L2 f qs → sp__law_pair [.int t, .int l] L2 (fun x L1 => ∃ xs, L1 f = some (LO.lst xs) ∧ xs.length < sizeLine ∧ D0.nx [some (.ref b), y1, y2, y3, some (.ref f), y5, y6, y7] (lupd L1 f (.lst (xs ++ [x])))) ED0 := fun t l L2 y6 y7 t0 l0 t1 l1 d2 h2 =>
    ⟨t, l, rfl, t0, l0, Nat.lt_of_lt_of_le l1 (Nat.pow_le_pow_right (by decide) (by omega)), app L2 _ y6 y7 d2 h2 (bd_of _ t l t0 l0 t1 l1)⟩
  have up : (2 : Nat) ^ 104 ≤ 2 ^ (104 + 2 * (i + 1)) := Nat.pow_le_pow_right (by decide) (by omega)
  have small : ∀ t : Int, t.natAbs < 2 ^ 104 → t.natAbs < 2 ^ (104 + 2 * (i + 1)) := fun t h => Nat.lt_of_lt_of_le h up
  unfold d_thturn
  walk_at "dv"
  refine draw_k dr.ok ⟨by decide, by decide⟩ fun d L1 hd dr1 => ?_
  have f1 := keep _ _ dr1 hf
  have drA := dr.trans dr1
  walk_at "dv"
  by_cases h0 : d = 0
  · rw [decide_eq_true h0]
    refine iteT ⟨⟨_, .inl f1⟩, _, .inl f1, draw_k drA.ok ⟨by rw [List.length_map, l2]; omega, ?_⟩ fun e L2 he dr2 => ?_⟩
    · rw [List.length_map, l2, Int.natAbs_natCast]
      exact Nat.lt_of_lt_of_le (show 2 + i < 2 ^ 10 by omega) (Nat.pow_le_pow_right (by decide) (by decide))
    have f2 := keep _ _ dr2 f1
    obtain ⟨j, rfl⟩ := Int.eq_ofNat_of_zero_le he.1
    have hj : j < qs.length := by
      have := he.2
      rw [List.length_map] at this
      omega
    walk_at "dv"
    refine ⟨_, .inl f2, _, at_gen (j := j) rfl (by rw [List.getElem?_map, List.getElem?_eq_getElem hj]; rfl), app L2 _ _ _ (drA.trans dr2) f2 ((hb _ (List.getElem_mem hj)).mono (by omega))⟩
  rw [decide_eq_false h0]
  refine iteF ?_
  by_cases h1 : d = 1
  · rw [decide_eq_true h1]
    refine iteT ⟨⟨_, .inl f1⟩, ⟨by decide, by decide, by decide⟩, by decide, fun p hp => ?_⟩
    have g : Gr L1 (lupd L1 p (LO.lst [D.int 0, D.int 0, D.int 1, D.int 5, D.int (10 ^ Int.toNat 29)])) := Gr.new hp
    refine ⟨b, c, p, _, rfl, drA.ok.gr g, drA.ok.ne hp, .inl lupd_same, ⟨by simp, by simp⟩, fun d L2 hd dr2 => ?_⟩
    obtain ⟨n, hn, rfl⟩ := int_at (ns := [0, 0, 1, 5, 10 ^ Int.toNat 29]) hd
    have hn2 : 0 ≤ n ∧ n ≤ 10 ^ 29 := by
      simp at hn
      omega
    have dr3 := dr2.gr' g
    have f2 := keep _ _ dr3 f1
    refine ⟨by decide, ?_⟩
    have := app L2 (n : Rat) (some (.int 1)) y7 (drA.trans dr3) f2 ⟨Rat.intCast_nonneg.mpr hn2.1, small n (by omega), Nat.one_lt_two_pow (by omega)⟩
    rw [h1]
    exact this
  rw [decide_eq_false h1]
  refine iteF ?_
  by_cases h2 : d = 2
  · rw [decide_eq_true h2]
    refine iteT ⟨_, .inl f1, draw_k drA.ok ⟨by rw [List.length_map, l2]; omega, ?_⟩ fun e L2 he dr2 => ?_⟩
    · rw [List.length_map, l2, Int.natAbs_natCast]
      exact Nat.lt_of_lt_of_le (show 2 + i < 2 ^ 10 by omega) (Nat.pow_le_pow_right (by decide) (by decide))
    have f2 := keep _ _ dr2 f1
    obtain ⟨j, rfl⟩ := Int.eq_ofNat_of_zero_le he.1
    have hj : j < qs.length := by
      have := he.2
      rw [List.length_map] at this
      omega
    have hq := hb _ (List.getElem_mem hj)
    have nb2 := near_bd hq
    walk_at "dv"
    refine ⟨_, .inl f2, fr qs[j], at_gen (j := j) rfl (by rw [List.getElem?_map, List.getElem?_eq_getElem hj]; rfl), ⟨_, .inl f2⟩, ?_⟩
    unfold fr
    walk_at "dv"
    walk_at "dw"
    (try walk_at "dv")
    have hd := den_pos qs[j]
    have hn := hq.num0
    refine ⟨cmulR (by decide), cmulR (by decide), pr _ _ L2 _ _ (by omega) (by omega) ?_ ?_ (drA.trans dr2) f2⟩
    · exact nb2.1
    · exact nb2.2
  rw [decide_eq_false h2]
  refine iteF ?_
  by_cases h3 : d = 3
  · rw [decide_eq_true h3]
    refine iteT ⟨⟨_, .inl f1⟩, ⟨by decide, by decide, by decide⟩, draw_k drA.ok ⟨by decide, by decide⟩ fun t L2 ht dr2 => ⟨⟨by decide, by decide, by decide⟩, draw_k dr2.ok ⟨by decide, by decide⟩ fun l L3 hl dr3 => ?_⟩⟩
    walk_at "dv"
    have h30 : (10 : Int) ^ (30 : Int).toNat < 2 ^ 104 - 5 := by decide
    exact pr _ _ L3 _ _ ht.1 (by omega) (small _ (by omega)) (small _ (by omega)) ((drA.trans dr2).trans dr3) (keep _ _ dr3 (keep _ _ dr2 f1))
  rw [decide_eq_false h3]
  refine iteF ⟨⟨_, .inl f1⟩, draw_k drA.ok ⟨by decide, by decide⟩ fun t L2 ht dr2 => draw_k dr2.ok ⟨by decide, by decide⟩ fun l L3 hl dr3 => ?_⟩
  walk_at "dv"
  exact pr _ _ L3 _ _ ht.1 (by omega) (small _ (by omega)) (small _ (by omega)) ((drA.trans dr2).trans dr3) (keep _ _ dr3 (keep _ _ dr2 f1))
theorem Dr.none {L L' : LHp} {b c p : Addr} (d : Dr b c L L') (h : L' p = none) : L p = none := by
  cases e : L p with
  | none => rfl
  | some o =>
    by_cases hb : p = b
    · exact absurd (by rw [← hb]; exact h) d.ok.isS
    · rw [d.kp p o hb e] at h
      cases h
theorem last_of {d : D} (h : d ∈ [D.tup [D.int 1, D.int 3], D.tup [D.int 1, D.int 2], D.tup [D.int 0, D.int 1]]) : ∃ q, d = fr q ∧ Bd 130 q := by
  simp only [List.mem_cons, List.not_mem_nil, or_false] at h
  rcases h with rfl | rfl | rfl
  · exact ⟨⟨1, 3, by decide, by decide⟩, rfl, ⟨by decide, by decide, by decide⟩⟩
  · exact ⟨⟨1, 2, by decide, by decide⟩, rfl, ⟨by decide, by decide, by decide⟩⟩
  · exact ⟨0, rfl, bd_zero (by decide)⟩
theorem thend {L L0 : LHp} {b c f : Addr} {qs : List Rat} {q0 q1 : Rat} {y1 y2 y3 y5 y6 y7 : Option D} {Q : DK} (dr : Dr b c L0 L) (hf : Fracs L f qs) (nf : L0 f = none) (nb : f ≠ b) (nc : f ≠ c) (l2 : 3 ≤ qs.length ∧ qs.length ≤ 8) (hb : ∀ q ∈ qs, Bd 130 q) (m0 : q0 ∈ qs) (m1 : q1 ∈ qs) (ne : q0 ≠ q1)
    (hQ : ∀ (p : Addr) (qs : List Rat) (L' : LHp), L0 p = none → Dr b c L0 L' → Fracs L' p qs → (4 ≤ qs.length ∧ qs.length ≤ 9) → (∀ q ∈ qs, Bd 130 q) → (∃ q ∈ qs, ∃ r ∈ qs, q ≠ r) → Q (.ref p) L') :
    d_thend { nx := fun _ L' => Q .non L', rt := Q } [some (.ref b), y1, y2, y3, some (.ref f), y5, y6, y7] L := by
  unfold d_thend
  walk_at "dv"
  refine ⟨by decide, by decide, by decide, by decide, fun p hp => ?_⟩
  have g : Gr L (lupd L p (LO.lst [D.tup [D.int 1, D.int 3], D.tup [D.int 1, D.int 2], D.tup [D.int 0, D.int 1]])) := Gr.new hp
  refine ⟨b, c, p, _, rfl, dr.ok.gr g, dr.ok.ne hp, .inl lupd_same, ⟨by simp, by simp⟩, fun d L2 hd dr2 => ?_⟩
  obtain ⟨q, rfl, hq⟩ := last_of hd
  have d2 := dr.trans (dr2.gr' g)
  have f2 : Fracs L2 f qs := dr2.kp _ _ nb (g _ _ hf)
  refine ⟨by decide, fun u hu => ?_⟩
  have g2 : Gr L2 (lupd L2 u (LO.lst [fr q])) := Gr.new hu
  refine ⟨_, g2 _ _ f2, _, lupd_same, ?_, fun r hr => ?_⟩
  · rw [List.length_map]
    exact Nat.le_trans (show qs.length + 1 ≤ 9 by omega) (by decide)
  have g3 : Gr (lupd L2 u (LO.lst [fr q])) (lupd (lupd L2 u (LO.lst [fr q])) r (LO.lst (qs.map fr ++ [fr q]))) := Gr.new hr
  have d3 := d2.gr (g2.trans g3)
  refine ⟨b, c, r, qs.map fr ++ [fr q], rfl, d3.ok, (d2.gr g2).ok.ne hr, .inl lupd_same, ?_, fun v ys L3 hv pm hy dr4 => ?_⟩
  · rw [List.length_append, List.length_map]
    exact Nat.le_trans (show qs.length + 1 ≤ 9 by omega) (by decide)
  obtain ⟨rs, pr, rfl⟩ := perm_fr pm (qs := qs ++ [q]) (by rw [List.map_append]; rfl)
  have hl := pr.length_eq
  rw [List.length_append, List.length_singleton] at hl
  refine hQ v rs L3 (d3.none hv) (d3.trans dr4) hy ⟨by omega, by omega⟩ (fun r hr => ?_) ⟨q0, pr.mem_iff.mpr (List.mem_append_left _ m0), q1, pr.mem_iff.mpr (List.mem_append_left _ m1), ne⟩
  rcases List.mem_append.mp (pr.mem_iff.mp hr) with h | h
  · exact hb r h
  · rw [List.mem_singleton.mp h]; exact hq
theorem beyond {t l n : Int} (hl : 0 < l) (hn : 0 < n) : (t : Rat) / (l : Rat) ≠ ((t * n + 1 : Int) : Rat) / ((l * n : Int) : Rat) := by
  have h1 := ne0 hl
  have h2 := ne0 hn
  intro e
  rw [Rat.intCast_add, Rat.intCast_mul, Rat.intCast_mul, Rat.intCast_one] at e
  have e1 : (t : Rat) * (n : Rat) = (t : Rat) * (n : Rat) + 1 := by
    have e2 : (t : Rat) / (l : Rat) * ((l : Rat) * (n : Rat)) = ((t : Rat) * (n : Rat) + 1) / ((l : Rat) * (n : Rat)) * ((l : Rat) * (n : Rat)) := by rw [e]
    grind
  grind
theorem things2 {L L0 : LHp} {b c : Addr} {t l : Int} {Q : DK} (dr : Dr b c L0 L) (ht : 0 ≤ t ∧ t ≤ 10 ^ 30) (hl : 0 < l ∧ l ≤ 10 ^ 30)
    (hQ : ∀ (p : Addr) (qs : List Rat) (L' : LHp), L0 p = none → Dr b c L0 L' → Fracs L' p qs → (4 ≤ qs.length ∧ qs.length ≤ 9) → (∀ q ∈ qs, Bd 130 q) → (∃ q ∈ qs, ∃ r ∈ qs, q ≠ r) → Q (.ref p) L') :
    d_things2 { nx := fun _ L' => Q .non L', rt := Q } [some (.ref b), some (.int t), some (.int l), none, none, none, none, none] L := by
  unfold d_things2 dForR
  walk_at "dv"
  refine draw_k dr.ok ⟨by decide, by decide⟩ fun n L1 hn dr1 => ?_
  walk_at "dv"
  have p104 : ∀ z : Int, 0 ≤ z → z ≤ 7 * 10 ^ 30 + 1 → z.natAbs < 2 ^ 104 := fun z h1 h2 => by omega
  have hn1 : 0 < 1 + n := by omega
  have bt : t * (1 + n) ≤ 7 * 10 ^ 30 := by
    have h1 : t * (1 + n) ≤ t * 7 := Int.mul_le_mul_of_nonneg_left (by omega) ht.1
    omega
  have bl : l * (1 + n) ≤ 7 * 10 ^ 30 := by
    have h1 : l * (1 + n) ≤ l * 7 := Int.mul_le_mul_of_nonneg_left (by omega) (by omega)
    omega
  have t0 : 0 ≤ t * (1 + n) := Int.mul_nonneg ht.1 (by omega)
  have l0 : 0 < l * (1 + n) := Int.mul_pos hl.1 hn1
  have up : (2 : Nat) ^ 104 ≤ 2 ^ 8000 := Nat.pow_le_pow_right (by decide) (by decide)
  have b1 := bd_of 104 t l ht.1 hl.1 (p104 t ht.1 (by omega)) (p104 l (by omega) (by omega))
  have b2 := bd_of 104 (t * (1 + n) + 1) (l * (1 + n)) (by omega) l0 (p104 _ (by omega) (by omega)) (p104 _ (by omega) (by omega))
  have l1 : (l.natAbs : Nat) < 2 ^ 104 := p104 l (by omega) (by omega)
  have l2 : (l * (1 + n)).natAbs < 2 ^ 104 := p104 _ (by omega) (by omega)
  have s1 : (t.natAbs : Nat) < 2 ^ 104 := p104 t ht.1 (by omega)
  have s2 : (1 + n).natAbs < 2 ^ 104 := by omega
  refine ⟨t, l, rfl, ht.1, hl.1, Nat.lt_of_lt_of_le l1 up, mulW s1 s2 (by decide), mulW l1 s2 (by decide), _, _, rfl, by omega, l0, Nat.lt_of_lt_of_le l2 up, by decide, fun f hf => ?_⟩
  have d1 := dr.trans dr1
  have nf := d1.none hf
  have nb := d1.ok.ne hf
  have nc := d1.ok.nc hf
  have g := Gr.new (o := .lst [fr ((t : Rat) / (l : Rat)), fr (((t * (1 + n) + 1 : Int) : Rat) / ((l * (1 + n) : Int) : Rat))]) hf
  refine draw_k (d1.gr g).ok ⟨by decide, by decide⟩ fun m L2 hm dr2 => ?_
  walk_at "dv"
  have d2 := (d1.gr g).trans dr2
  refine ⟨by omega, by omega, fun i τ L' => ∃ (qs : List Rat) (y5 y6 y7 : Option D), τ = [some (.ref b), some (.int t), some (.int l), some (.int (1 + n)), some (.ref f), y5, y6, y7] ∧ Dr b c L0 L' ∧ Fracs L' f qs ∧ qs.length = 2 + i ∧ (∀ q ∈ qs, Bd (104 + 2 * i) q) ∧ ((t : Rat) / (l : Rat)) ∈ qs ∧ (((t * (1 + n) + 1 : Int) : Rat) / ((l * (1 + n) : Int) : Rat)) ∈ qs,
    ⟨[(t : Rat) / (l : Rat), ((t * (1 + n) + 1 : Int) : Rat) / ((l * (1 + n) : Int) : Rat)], _, _, _, rfl, d2, dr2.kp _ _ nb lupd_same, rfl, fun q hq => ?_, by simp, by simp⟩, fun i τ L' hi ⟨qs, y5, y6, y7, ey, d3, hf3, ln, hb, m0, m1⟩ => ?_, fun τ L' ⟨qs, y5, y6, y7, ey, d3, hf3, ln, hb, m0, m1⟩ => ?_⟩
  · simp only [List.mem_cons, List.not_mem_nil, or_false] at hq
    rcases hq with rfl | rfl
    · exact b1
    · exact b2
  · subst ey
    exact thturn (D0 := { nx := _, rt := _, bk := _, ct := _ }) d3 hf3 nf nb nc ln (by omega) hb m0 m1 fun L4 rs y6 y7 dd ff ll bb mm nn => ⟨rs, _, _, _, rfl, dd, ff, ll, bb, mm, nn⟩
  · subst ey
    exact thend d3 hf3 nf nb nc ⟨by omega, by omega⟩ (fun q hq => (hb q hq).mono (by omega)) m0 m1 (beyond hl.1 hn1) hQ
theorem rd__law_things (ds : List D) (L : LHp) (Q : DK) (E : XD) (h : sp__law_things ds L Q E) : d__law_things { nx := fun _ L' => Q .non L', rt := Q } (dstart ["bag", "top", "low", "by", "found", "turn", "way", "near"] ds) L := by
  obtain ⟨b, c, rfl, B, hQ⟩ := h
  unfold d__law_things
  show dSeq _ (dSeq _ d_things2) _ _ _
  walk_at "dv"
  refine draw_k B ⟨by decide, by decide⟩ fun t L1 ht dr1 => draw_k dr1.ok ⟨by decide, by decide⟩ fun l L2 hl dr2 => ?_
  walk_at "dv"
  refine draw_k dr2.ok ⟨by decide, by decide⟩ fun w L3 hw dr3 => ?_
  walk_at "dv"
  have d3 := (dr1.trans dr2).trans dr3
  by_cases h0 : w = 0
  · rw [decide_eq_true h0]
    refine iteT ⟨⟨by decide, by decide, by decide⟩, draw_k d3.ok ⟨by decide, by decide⟩ fun t L4 ht dr4 => ⟨⟨by decide, by decide, by decide⟩, draw_k dr4.ok ⟨by decide, by decide⟩ fun l L5 hl dr5 => ?_⟩⟩
    walk_at "dv"
    have h30 : (10 : Int) ^ (30 : Int).toNat = 10 ^ 30 := by decide
    exact things2 ((d3.trans dr4).trans dr5) ⟨ht.1, by omega⟩ ⟨by omega, by omega⟩ hQ
  · rw [decide_eq_false h0]
    exact iteF (things2 d3 ⟨ht.1, by omega⟩ ⟨by omega, by omega⟩ hQ)
theorem len__law_things (ds : List D) (L : LHp) (Q : DK) (E : XD) (h : sp__law_things ds L Q E) : ds.length = 1 := by obtain ⟨B, c, rfl, _⟩ := h; rfl
end K00
namespace K00
open PySem PySem.Spec PyProof.Rows L2 DV FR
local macro_rules | `(tactic| walk_at "dv") => `(tactic| (simp only [dstart, List.map_cons, List.map_nil, List.length_cons, List.length_nil, Nat.reduceAdd, Nat.reduceSub, List.reduceReplicate, List.cons_append, List.nil_append, List.append_nil,
  dSeq, dNext, dSet, dRet, dRetN, dDrop, dAsg, dgName, dgTup, dgCons, dgNil, dgSub, dPar, dIfS, dVar, dC, dOp, dCons, dNil, dCB, dB, dAnd, dOr, dNot, dAndV, dOrV, dNotV, dIf, dTup, dLst, dCall, dBM, dSl, dNoPart, dPart, dFmt, dBits,
  List.getElem?_cons_succ, List.getElem?_cons_zero, List.set_cons_succ, List.set_cons_zero, Option.some.injEq, exists_eq_left', exists_eq_left, List.cons.injEq, D.int.injEq, D.bl.injEq, D.str.injEq, D.tup.injEq, D.ref.injEq, D.fls.injEq, and_true, true_and, and_assoc,
  if_true, if_false, Bool.false_eq_true, exists_const, exists_eq', exists_and_left, exists_and_right, List.length_singleton, ite_true, ite_false, Bool.not_true, Bool.not_false, reduceCtorEq, false_and, exists_false, Bool.false_xor, Bool.true_xor,
  ty_non, ty_bl, ty_int, ty_str, ty_tup, k01, k02, k03, k04, k05, k06, k07, k08, k09, k10, k11, k12, k13, k14, k15, k16, k17, k18, k19, k20, k21, k22, k23, k24, k25,
  rI2, DV.rIxD, rAddD, rLenD, rIsiD, rI2C, rEqv, rSlD, rIntD, rStrD, rAbsD, rIsND, rAppD, rPopD, rInsD, rFindD, tyM]))
local macro_rules | `(tactic| walk_at "dw") => `(tactic| simp only [at0, at1, Option.some.injEq, exists_eq_left', exists_eq_left, and_true, true_and, and_assoc, exists_eq', exists_and_left, exists_and_right])
local macro_rules | `(tactic| walk_at "bx") => `(tactic| ((first | refine ⟨?ds, Or.inl ?h1, ?x, ?h2, ?h3⟩ | refine ⟨?ds, ?h1, ?x, ?h2, ?h3⟩); (case h1 => first | assumption | exact lupd_same); (case h2 => rfl)))
theorem rix0 {q : Rat} {L : LHp} {Q : DK} : DV.rIxD (fr q) (.int 0) L Q = Q (.int q.num) L := propext ⟨fun ⟨x, h, k⟩ => by rw [at0] at h; cases h; exact k, fun h => ⟨_, at0 _ _, h⟩⟩
theorem rix1 {q : Rat} {L : LHp} {Q : DK} : DV.rIxD (fr q) (.int 1) L Q = Q (.int (q.den : Int)) L := propext ⟨fun ⟨x, h, k⟩ => by rw [at1] at h; cases h; exact k, fun h => ⟨_, at1 _ _, h⟩⟩
theorem rixF {ds : List D} {i : Int} {L : LHp} {Q : DK} : DV.rIxD (.fls ds) (.int i) L Q = ∃ x, atI ds i = some x ∧ Q x L := rfl
theorem rixR {a : Addr} {i : Int} {L : LHp} {Q : DK} : DV.rIxD (.ref a) (.int i) L Q = ∃ ds, LRd L a ds ∧ ∃ x, atI ds i = some x ∧ Q x L := by simp only [DV.rIxD, exists_and_left]
local macro_rules | `(tactic| walk_at "dk") => `(tactic| (simp only [dstart, List.map_cons, List.map_nil, List.length_cons, List.length_nil, Nat.reduceAdd, Nat.reduceSub, List.reduceReplicate, List.cons_append, List.nil_append, List.append_nil,
  dSeq, dNext, dSet, dRet, dRetN, dDrop, dAsg, dgName, dgTup, dgCons, dgNil, dgSub, dPar, dIfS, dVar, dC, dOp, dCons, dNil, dCB, dB, dAnd, dOr, dNot, dAndV, dOrV, dNotV, dIf, dTup, dLst, dCall, dBM, dSl, dNoPart, dPart, dFmt, dBits,
  List.getElem?_cons_succ, List.getElem?_cons_zero, List.set_cons_succ, List.set_cons_zero, Option.some.injEq, exists_eq_left', exists_eq_left, List.cons.injEq, D.int.injEq, D.bl.injEq, D.str.injEq, D.tup.injEq, D.ref.injEq, D.fls.injEq, and_true, true_and, and_assoc,
  if_true, if_false, Bool.false_eq_true, exists_const, exists_eq', exists_and_left, exists_and_right, List.length_singleton, ite_true, ite_false, Bool.not_true, Bool.not_false, reduceCtorEq, false_and, exists_false, Bool.false_xor, Bool.true_xor,
  ty_non, ty_bl, ty_int, ty_str, ty_tup, k01, k02, k03, k04, k05, k06, k07, k08, k09, k10, k11, k12, k13, k14, k15, k16, k17, k18, k19, k20, k21, k22, k23, k24, k25,
  rI2, rix0, rix1, rixR, rixF, rAddD, rLenD, rIsiD, rI2C, rEqv, rSlD, rIntD, rStrD, rAbsD, rIsND, rAppD, rPopD, rInsD, rFindD, tyM]))
def d_lw13e : DS :=
    (dSeq (dIfS (dNot (dB (dCall sp__law_like ED0 (dCons (dCall sp_fraction_text ED0 (dCons (dCall sp__law_raw ED0 (dCons (dVar 1) (dCons (dVar 8) dNil))) dNil)) (dCons (dCall sp__law_word ED0 (dCons (dVar 8) dNil)) dNil)))))
      (dRet (dC (.bl false)))
      dNext)
      (dIfS (dAnd (dB (dOp rLeD (dCB rLenD (dCons (dCB rStrD (dCons (dOp rIxD (dVar 8) (dC (.int 0))) dNil)) dNil)) (dC (.int 60)))) (dAnd (dB (dOp rLeD (dCB rLenD (dCons (dCB rStrD (dCons (dOp rIxD (dVar 8) (dC (.int 1))) dNil)) dNil)) (dC (.int 60)))) (dNot (dB (dCall sp__law_like ED0 (dCons (dCall sp_read_fraction ED0 (dCons (dCall sp__law_odd_word ED0 (dCons (dVar 1) (dCons (dVar 8) dNil))) dNil)) (dCons (dVar 8) dNil)))))))
      (dRet (dC (.bl false)))
      dNext))
def d_lw13d : DS :=
    (dSeq (dIfS (dAnd (dB (dOp rGtD (dOp rIxD (dVar 8) (dC (.int 0))) (dC (.int 0)))) (dNot (dB (dCall sp__law_like ED0 (dCons (dCall sp_quotient ED0 (dCons (dCall sp__law_raw ED0 (dCons (dVar 1) (dCons (dVar 11) dNil))) (dCons (dCall sp__law_raw ED0 (dCons (dVar 1) (dCons (dVar 8) dNil))) dNil))) (dCons (dCall sp__law_pair ED0 (dCons (dOp rMulD (dOp rIxD (dVar 11) (dC (.int 0))) (dOp rIxD (dVar 8) (dC (.int 1)))) (dCons (dOp rMulD (dOp rIxD (dVar 11) (dC (.int 1))) (dOp rIxD (dVar 8) (dC (.int 0)))) dNil))) dNil))))))
      (dRet (dC (.bl false)))
      dNext)
      d_lw13e)
def d_lw13c : DS :=
    (dSeq (dIfS (dAnd (dB (dOp rGtD (dOp rIxD (dVar 11) (dC (.int 0))) (dC (.int 0)))) (dNot (dB (dCall sp__law_like ED0 (dCons (dCall sp_quotient ED0 (dCons (dIf (dB (dOp (rEqv false) (dOp rModD (dVar 4) (dC (.int 2))) (dC (.int 0)))) (dVar 9) (dVar 12)) (dCons (dCall sp__law_raw ED0 (dCons (dVar 1) (dCons (dVar 11) dNil))) dNil))) (dCons (dVar 8) dNil))))))
      (dRet (dC (.bl false)))
      dNext)
      d_lw13d)
def d_lw13 : DS :=
    (dSeq (dPar 8 11 (dCons (dOp rIxD (dVar 2) (dVar 4)) (dCons (dOp rIxD (dVar 2) (dOp rAddD (dVar 4) (dC (.int 1)))) dNil)))
      (dSeq (dSet 9 (dCall sp__law_mul ED0 (dCons (dVar 8) (dCons (dVar 11) dNil))))
      (dSeq (dSet 12 (dCall sp_times ED0 (dCons (dCall sp__law_raw ED0 (dCons (dVar 1) (dCons (dVar 8) dNil))) (dCons (dCall sp__law_raw ED0 (dCons (dVar 1) (dCons (dVar 11) dNil))) dNil))))
      (dSeq (dIfS (dNot (dB (dCall sp__law_like ED0 (dCons (dVar 12) (dCons (dVar 9) dNil)))))
      (dRet (dC (.bl false)))
      dNext)
      d_lw13c))))
def d_lw12 : DS :=
    (dSeq (dForR (dCons (dOp rSubD (dCB rLenD (dCons (dVar 2) dNil)) (dC (.int 1))) dNil) (dgName 4) d_lw13)
      (dRet (dC (.bl true))))
def d_lw9 : DS :=
    (dSeq (dSet 9 (dTup (dCons (dC (.int 1)) (dCons (dC (.int 1)) dNil))))
      (dSeq (dSet 10 (dSl (dVar 2) dNoPart (dPart (dCall sp__law_draw ED0 (dCons (dVar 1) (dCons (dC (.int 8)) dNil))))))
      (dSeq (dForL (dVar 10) (dgName 8) (dSet 9 (dCall sp__law_mul ED0 (dCons (dVar 9) (dCons (dVar 8) dNil)))))
      (dSeq (dIfS (dNot (dB (dCall sp__law_like ED0 (dCons (dCall sp__law_times ED0 (dCons (dLcL 8 (dVar 10) dTYes (dCall sp__law_raw ED0 (dCons (dVar 1) (dCons (dVar 8) dNil)))) dNil)) (dCons (dVar 9) dNil)))))
      (dRet (dC (.bl false)))
      dNext)
      d_lw12))))
def d_lw8b : DS :=
    (dIfS (dNot (dB (dCall sp__law_like ED0 (dCons (dCall sp__law_plus ED0 (dCons (dLcL 8 (dSl (dVar 2) dNoPart (dPart (dVar 7))) dTYes (dCall sp__law_raw ED0 (dCons (dVar 1) (dCons (dVar 8) dNil)))) dNil)) (dCons (dCall sp__law_total ED0 (dCons (dSl (dVar 2) dNoPart (dPart (dVar 7))) dNil)) dNil)))))
      (dRet (dC (.bl false)))
      dNext)
def d_lw8 : DS :=
    (dSeq (dForT (dTup (dCons (dCB rLenD (dCons (dVar 2) dNil)) (dCons (dCall sp__law_draw ED0 (dCons (dVar 1) (dCons (dC (.int 4)) dNil))) dNil))) (dgName 7) d_lw8b)
      d_lw9)
def d_lw7 : DS :=
    (dSeq (dIfS (dOr (dB (dOp (rEqv false) (dOp rIxD (dVar 6) (dC (.int 0))) (dC (.int 0)))) (dNot (dB (dCall sp__law_like ED0 (dCons (dCall sp__law_plus ED0 (dCons (dVar 5) dNil)) (dCons (dVar 6) dNil))))))
      (dRet (dC (.bl false)))
      dNext)
      d_lw8)
def d_lw1 : DS :=
    (dSeq (dSet 1 (dCall sp__law_bag ED0 (dCons (dVar 0) dNil)))
      (dSeq (dSet 2 (dCall sp__law_things ED0 (dCons (dVar 1) dNil)))
      (dSeq (dIfS (dNot (dB (dCall sp__law_each_two ED0 (dCons (dVar 1) (dCons (dVar 2) dNil)))))
      (dRet (dC (.bl false)))
      dNext)
      (dSeq (dSet 3 (dCall sp__law_in_order ED0 (dCons (dVar 2) dNil)))
      (dSeq (dSet 5 (dLcR 4 (dCons (dOp rSubD (dCB rLenD (dCons (dVar 3) dNil)) (dC (.int 1))) dNil) dTYes (dCall sp_apart ED0 (dCons (dCall sp__law_raw ED0 (dCons (dVar 1) (dCons (dOp rIxD (dVar 3) (dVar 4)) dNil))) (dCons (dCall sp__law_raw ED0 (dCons (dVar 1) (dCons (dOp rIxD (dVar 3) (dOp rAddD (dVar 4) (dC (.int 1)))) dNil))) dNil)))))
      (dSeq (dSet 6 (dCall sp__law_apart ED0 (dCons (dOp rIxD (dVar 3) (dC (.int 0))) (dCons (dOp rIxD (dVar 3) (dOp rSubD (dCB rLenD (dCons (dVar 3) dNil)) (dC (.int 1)))) dNil))))
      d_lw7))))))
theorem raw_k {L : LHp} {b c : Addr} {q : Rat} {Q : DK} (B : BagOk L b c) (h : Bd 130 q) (k : ∀ d L', Dr b c L L' → Raw 170 d q → Q d L') : sp__law_raw [.ref b, fr q] L Q ED0 := ⟨b, c, q, rfl, B, h, k⟩
theorem like_k {L : LHp} {d : D} {Q : DK} (h : Told d) (k : ∀ L', Gr L L' → Q (.bl true) L') : sp__law_like [d, d] L Q ED0 := ⟨d, rfl, h, k⟩
abbrev stL (b t : Addr) (y0 y3 y4 y5 y6 y7 y8 y9 y10 y11 y12 : Option D) : DSt := [y0, some (.ref b), some (.ref t), y3, y4, y5, y6, y7, y8, y9, y10, y11, y12]
theorem szNum {n : Int} (h0 : 0 ≤ n) (h : n.natAbs < 2 ^ 130) : (PySem.Str.ofString (toString n)).length ≤ sizeLine :=
  sz (Nat.le_trans (numS_len1900 h0 (Nat.lt_of_lt_of_le h (Nat.pow_le_pow_right (by decide) (by decide)))) (by decide))
theorem iteB {c : Bool} {a b : Prop} (h1 : c = true → a) (h2 : c = false → b) : if c = true then a else b := by
  cases c
  · exact iteF (h2 rfl)
  · exact iteT (h1 rfl)
theorem lw13e {L : LHp} {b c t : Addr} {p : Rat} {D0 : DEnds} {y0 y3 y4 y5 y6 y7 y9 y10 y11 y12 : Option D} (B : BagOk L b c) (hp : Bd 130 p) (hQ : ∀ L', Dr b c L L' → D0.nx (stL b t y0 y3 y4 y5 y6 y7 (some (fr p)) y9 y10 y11 y12) L') :
    d_lw13e D0 (stL b t y0 y3 y4 y5 y6 y7 (some (fr p)) y9 y10 y11 y12) L := by
  unfold d_lw13e stL
  walk_at "dk"
  refine raw_k B hp fun d L1 d1 r1 => ⟨_, p, rfl, r1.mono (by decide), p, rfl, hp.mono (by decide), like_k (.sc (.str _)) fun L2 g2 => ⟨true, rfl, iteF ?_⟩⟩
  have dA := d1.gr g2
  refine ⟨log_small hp.top (by decide) (by decide), szNum hp.num0 hp.top, iteB (fun _ => ?_) (fun _ => hQ L2 dA)⟩
  refine ⟨log_small hp.botI (by decide) (by decide), szNum (Int.natCast_nonneg _) hp.botI, iteB (fun _ => ?_) (fun _ => hQ L2 dA)⟩
  refine ⟨b, c, p, rfl, dA.ok, hp.mono (by decide), fun z L3 d3 w => ⟨z, p, rfl, w, fun L4 g4 => like_k (.two _ _) fun L5 g5 => ⟨true, rfl, iteF (hQ L5 (((dA.trans d3).gr g4).gr g5))⟩⟩⟩
theorem div_cross2 {p q : Rat} (hp : 0 < p.num) : ((q.num * (p.den : Int) : Int) : Rat) / (((q.den : Int) * p.num : Int) : Rat) = q / p := div_cross hp
theorem num_ne {q : Rat} (h : 0 < q.num) : q ≠ 0 := fun e => by rw [e] at h; exact absurd h (by decide)
theorem lw13d {L : LHp} {b c t : Addr} {p q : Rat} {D0 : DEnds} {y0 y3 y4 y5 y6 y7 y9 y10 y12 : Option D} (B : BagOk L b c) (hp : Bd 130 p) (hq : Bd 130 q) (hQ : ∀ L', Dr b c L L' → D0.nx (stL b t y0 y3 y4 y5 y6 y7 (some (fr p)) y9 y10 (some (fr q)) y12) L') :
    d_lw13d D0 (stL b t y0 y3 y4 y5 y6 y7 (some (fr p)) y9 y10 (some (fr q)) y12) L := by
  unfold d_lw13d stL
  walk_at "dk"
  refine iteB (fun h => ?_) (fun _ => lw13e B hp hQ)
  have h0 := of_decide_eq_true h
  refine raw_k B hq fun d1 L1 dr1 r1 => raw_k dr1.ok hp fun d2 L2 dr2 r2 => ⟨d1, d2, 170, q, p, rfl, r1, r2, by decide, num_ne h0, mulW hq.top hp.botI (by decide), mulW hq.botI hp.top (by decide), _, _, rfl, Int.mul_nonneg hq.num0 (by omega), Int.mul_pos (den_pos q) h0, ?_, ?_⟩
  · exact Nat.lt_of_lt_of_le (mul_lt hq.botI hp.top) (Nat.pow_le_pow_right (by decide) (by decide))
  · rw [div_cross2 h0]
    have dA := dr1.trans dr2
    exact like_k (.two _ _) fun L3 g3 => ⟨true, rfl, iteF (lw13e (dA.gr g3).ok hp fun L4 d4 => hQ L4 ((dA.gr g3).trans d4))⟩
theorem lw13c {L : LHp} {b c t : Addr} {p q : Rat} {k : Int} {D0 : DEnds} {y0 y3 y5 y6 y7 y10 : Option D} (B : BagOk L b c) (hp : Bd 130 p) (hq : Bd 130 q) (hQ : ∀ L', Dr b c L L' → D0.nx (stL b t y0 y3 (some (.int k)) y5 y6 y7 (some (fr p)) (some (fr (p * q))) y10 (some (fr q)) (some (fr (p * q)))) L') :
    d_lw13c D0 (stL b t y0 y3 (some (.int k)) y5 y6 y7 (some (fr p)) (some (fr (p * q))) y10 (some (fr q)) (some (fr (p * q)))) L := by
  unfold d_lw13c stL
  walk_at "dk"
  refine iteB (fun h => ⟨by decide, ?_⟩) (fun _ => lw13d B hp hq hQ)
  have h0 := num_ne (of_decide_eq_true h)
  refine iteB (fun _ => ?_) (fun _ => ?_)
  all_goals
    refine raw_k B hq fun d1 L1 dr1 r1 => ⟨_, d1, 260, p * q, q, rfl, (mul_raw hp hq).bd.raw, r1.mono (by decide), by decide, h0, ?_⟩
    rw [show p * q / q = p by grind]
    exact like_k (.two _ _) fun L3 g3 => ⟨true, rfl, iteF (lw13d (dr1.gr g3).ok hp hq fun L4 d4 => hQ L4 ((dr1.gr g3).trans d4))⟩
theorem lw13 {L : LHp} {b c t : Addr} {p q : Rat} {k : Nat} {qs : List Rat} {D0 : DEnds} {y0 y3 y5 y6 y7 y8 y9 y10 y11 y12 : Option D} (B : BagOk L b c) (ht : LRd L t (qs.map fr)) (hp : Bd 130 p) (hq : Bd 130 q) (ep : qs[k]? = some p) (eq : qs[k + 1]? = some q) (hQ : ∀ y8 y9 y11 y12 L', Dr b c L L' → D0.nx (stL b t y0 y3 (some (.int (k : Int))) y5 y6 y7 y8 y9 y10 y11 y12) L') :
    d_lw13 D0 (stL b t y0 y3 (some (.int (k : Int))) y5 y6 y7 y8 y9 y10 y11 y12) L := by
  unfold d_lw13 stL
  walk_at "dk"
  refine ⟨_, ht, _, at_gen (j := k) rfl (by rw [List.getElem?_map, ep]; rfl), _, ht, _, at_gen (j := k + 1) rfl (by rw [List.getElem?_map, eq]; rfl), 130, p, q, rfl, hp, hq, by decide, raw_k B hp fun d1 L1 dr1 r1 => raw_k dr1.ok hq fun d2 L2 dr2 r2 => ⟨show (2 : Nat) ≤ sizeLine by decide, [d1, d2], 170, [p, q], rfl, two_raw r1 r2, show (170 + 1) * 2 + 1 ≤ 8000 by decide, ?_⟩⟩
  rw [show rprod [p, q] = p * q by show p * (q * 1) = _; rw [Rat.mul_one]]
  have dA := dr1.trans dr2
  exact like_k (.two _ _) fun L3 g3 => ⟨true, rfl, iteF (lw13c (dA.gr g3).ok hp hq fun L4 d4 => hQ _ _ _ _ L4 ((dA.gr g3).trans d4))⟩
theorem lw12 {L : LHp} {b c t : Addr} {qs : List Rat} {Q : DK} {y0 y3 y4 y5 y6 y7 y8 y9 y10 y11 y12 : Option D} (B : BagOk L b c) (nt : t ≠ b) (ht : LRd L t (qs.map fr)) (hb : ∀ q ∈ qs, Bd 130 q) (hl : 1 ≤ qs.length ∧ qs.length ≤ 9) (hQ : ∀ L', Q (.bl true) L') :
    d_lw12 { nx := fun _ L' => Q .non L', rt := Q } (stL b t y0 y3 y4 y5 y6 y7 y8 y9 y10 y11 y12) L := by
  unfold d_lw12 dForR stL
  walk_at "dk"
  refine ⟨_, ht, ?_⟩
  rw [List.length_map]
  refine ⟨by omega, by omega, fun i τ L' => Dr b c L L' ∧ ∃ y4 y8 y9 y11 y12, τ = stL b t y0 y3 y4 y5 y6 y7 y8 y9 y10 y11 y12, ⟨Dr.refl B, _, _, _, _, _, rfl⟩, fun i τ L' hi ⟨dr, y4, y8, y9, y11, y12, ey⟩ => ?_, fun τ L' _ => hQ L'⟩
  subst ey
  have h1 : i < qs.length := by omega
  have h2 : i + 1 < qs.length := by omega
  exact lw13 (D0 := { nx := _, rt := _, bk := _, ct := _ }) dr.ok (dr.rd nt ht) (hb _ (List.getElem_mem h1)) (hb _ (List.getElem_mem h2)) (List.getElem?_eq_getElem h1) (List.getElem?_eq_getElem h2) fun y8 y9 y11 y12 L2 d2 => ⟨dr.trans d2, _, _, _, _, _, rfl⟩
theorem cut_take {xs : List D} (j : Nat) : DV.cutD xs none (some (j : Int)) = xs.take j := by
  unfold DV.cutD
  rw [HT.sIx_none, HT.sIx_nat, Nat.sub_zero, List.drop_zero]
  by_cases h : j ≤ xs.length
  · rw [Nat.min_eq_left h]
  · rw [Nat.min_eq_right (by omega), List.take_of_length_le (Nat.le_refl _), List.take_of_length_le (by omega)]
theorem raw_len9 {B : Nat} {xs : List D} {qs : List Rat} (h : RawL B xs qs) (l : qs.length ≤ 9) : xs.length < sizeLine := by
  rw [h.length]
  exact Nat.lt_of_le_of_lt l (by decide)
theorem raws_lc {L : LHp} {b c t a E : Addr} {qs : List Rat} {N : LHp → Prop} {y0 y3 y4 y5 y6 y7 y8 y9 y10 y11 y12 : Option D} (B : BagOk L b c) (na : a ≠ b) (ha : LRd L a (qs.map fr)) (hb : ∀ q ∈ qs, Bd 130 q) (hl : qs.length ≤ 9) (hE : L E = none)
    (k : ∀ xs L', Dr b c L L' → L' E = some (.lst xs) → RawL 170 xs qs → N L') :
    ∃ Pv : Nat → LHp → Prop, Pv 0 (lupd L E (LO.lst [])) ∧ (∀ (i : Nat) (L' : LHp), i ≤ (qs.map fr).length → Pv i L' → LRd L' a (qs.map fr)) ∧
      (∀ (i : Nat) (d : D) (L' : LHp), (qs.map fr)[i]? = some d → Pv i L' → lcTurn dTYes (dCall sp__law_raw ED0 (dCons (dVar 1) (dCons (dVar 8) dNil))) E (List.set (stL b t y0 y3 y4 y5 y6 y7 y8 y9 y10 y11 y12) 8 (some d)) L' (Pv (i + 1))) ∧ ∀ (L' : LHp), Pv (qs.map fr).length L' → N L' := by
  have nb := B.ne hE
  have nc := B.nc hE
  refine ⟨fun i L' => Dr b c L L' ∧ ∃ xs, L' E = some (.lst xs) ∧ RawL 170 xs (qs.take i), ⟨(Dr.refl B).gr (Gr.new hE), [], lupd_same, .nil⟩, fun i L' hi ⟨dr, _⟩ => dr.rd na ha, fun i d L' hd ⟨dr, xs, hx, r⟩ => ?_, fun L' ⟨dr, xs, hx, r⟩ => ?_⟩
  · rw [List.getElem?_map] at hd
    obtain ⟨q, gq, rfl⟩ := Option.map_eq_some_iff.mp hd
    have hq := hb q (List.mem_of_getElem? gq)
    unfold lcTurn dTYes stL
    refine iteT ?_
    walk_at "dk"
    refine raw_k dr.ok hq fun d L2 dr2 r2 => ⟨xs, dr2.kp _ _ nb hx, raw_len9 r (by rw [List.length_take]; omega), ?_⟩
    refine ⟨⟨(dr.trans dr2).ok.upd nb nc, fun x o nx e => ?_⟩, _, lupd_same, ?_⟩
    · rw [lupd_ne (fun z => by rw [z, hE] at e; cases e)]
      exact (dr.trans dr2).kp x o nx e
    · rw [take_snoc gq]
      exact r.snoc r2
  · rw [List.length_map, List.take_length] at r
    exact k xs L' dr hx r
theorem mul_bd {B C : Nat} {p q : Rat} (hp : Bd C p) (hq : Bd B q) : Bd (C + B) (p * q) := (mul_raw hp hq).bd
theorem take_map {qs : List Rat} {j : Nat} : (qs.map fr).take j = (qs.take j).map fr := (List.map_take ..).symm
theorem lw9 {L : LHp} {b c t : Addr} {qs : List Rat} {Q : DK} {y0 y3 y4 y5 y6 y7 y8 y9 y10 y11 y12 : Option D} (B : BagOk L b c) (nt : t ≠ b) (ht : LRd L t (qs.map fr)) (hb : ∀ q ∈ qs, Bd 130 q) (hl : 1 ≤ qs.length ∧ qs.length ≤ 9) (hQ : ∀ L', Q (.bl true) L') :
    d_lw9 { nx := fun _ L' => Q .non L', rt := Q } (stL b t y0 y3 y4 y5 y6 y7 y8 y9 y10 y11 y12) L := by
  unfold d_lw9 dForL dLcL stL
  walk_at "dk"
  refine ⟨by decide, draw_k B ⟨by decide, by decide⟩ fun d L1 hd dr1 => ⟨d, rfl, _, dr1.rd nt ht, fun f hf => ?_⟩⟩
  obtain ⟨j, rfl⟩ := Int.eq_ofNat_of_zero_le hd.1
  rw [cut_take, take_map]
  have nfb := dr1.ok.ne hf
  generalize hus : qs.take j = us
  have hu : ∀ q ∈ us, Bd 130 q := fun q h => hb q (List.mem_of_mem_take (by rw [hus]; exact h))
  have lu : us.length ≤ 7 := by rw [← hus, List.length_take]; omega
  have g := Gr.new (o := .lst (us.map fr)) hf
  have dA := dr1.gr g
  refine ⟨us.map fr, .inl lupd_same, fun i τ L' => L' = lupd L1 f (.lst (us.map fr)) ∧ ∃ y8, τ = stL b t y0 y3 y4 y5 y6 y7 y8 (some (fr (rprod (us.take i)))) (some (.ref f)) y11 y12 ∧ Bd ((130 + 1) * i + 1) (rprod (us.take i)), ⟨rfl, _, rfl, bd_one⟩, fun i τ L' hi ⟨e, _⟩ => by rw [e]; exact .inl lupd_same, fun i d τ L' hd ⟨e, y8, ey, hs⟩ => ?_, fun τ L' ⟨e, y8, ey, hs⟩ => ?_⟩
  · subst e ey
    rw [List.getElem?_map] at hd
    obtain ⟨q, gq, rfl⟩ := Option.map_eq_some_iff.mp hd
    have hi : i < us.length := (List.getElem?_eq_some_iff.mp gq).1
    have hq := hu q (List.mem_of_getElem? gq)
    unfold stL
    walk_at "dk"
    refine ⟨1000, _, q, rfl, hs.mono (by omega), hq.mono (by omega), by decide, ?_⟩
    rw [take_snoc gq, rprod_snoc]
    have hx := mul_bd hs hq
    exact ⟨rfl, rfl, hx.mono (by omega)⟩
  · subst e ey
    rw [List.length_map, List.take_length]
    unfold stL
    walk_at "dk"
    refine ⟨_, .inl lupd_same, fun E hE => raws_lc (y8 := none) dA.ok nfb (.inl lupd_same) hu (by omega) hE fun xs L2 dr2 hx r => ?_⟩
    refine ⟨E, 170, xs, us, rfl, .inl hx, r, by rw [r.length]; exact lu, by decide, fun L3 g3 => like_k (.two _ _) fun L4 g4 => ⟨true, rfl, iteF ?_⟩⟩
    have dB := ((dA.trans dr2).gr g3).gr g4
    exact lw12 dB.ok nt (dB.rd nt ht) hb hl hQ
theorem lw8b {L : LHp} {b c t : Addr} {j : Nat} {qs : List Rat} {D0 : DEnds} {y0 y3 y4 y5 y6 y8 y9 y10 y11 y12 : Option D} (B : BagOk L b c) (nt : t ≠ b) (ht : LRd L t (qs.map fr)) (hb : ∀ q ∈ qs, Bd 130 q) (hl : qs.length ≤ 9) (hQ : ∀ L', Dr b c L L' → D0.nx (stL b t y0 y3 y4 y5 y6 (some (.int (j : Int))) y8 y9 y10 y11 y12) L') :
    d_lw8b D0 (stL b t y0 y3 y4 y5 y6 (some (.int (j : Int))) y8 y9 y10 y11 y12) L := by
  unfold d_lw8b dLcL stL
  walk_at "dk"
  refine ⟨_, ht, fun f hf => ?_⟩
  rw [cut_take, take_map]
  have nfb := B.ne hf
  generalize hus : qs.take j = us
  have hu : ∀ q ∈ us, Bd 130 q := fun q h => hb q (List.mem_of_mem_take (by rw [hus]; exact h))
  have lu : us.length ≤ 9 := by rw [← hus, List.length_take]; omega
  have g := Gr.new (o := .lst (us.map fr)) hf
  have dA := (Dr.refl B).gr g
  refine ⟨us.map fr, .inl lupd_same, fun E hE => raws_lc (y8 := none) dA.ok nfb (.inl lupd_same) hu lu hE fun xs L2 dr2 hx r => ?_⟩
  refine ⟨E, 170, xs, us, rfl, .inl hx, r, by rw [r.length]; exact lu, by decide, fun L3 g3 => ?_⟩
  have dB := (dA.trans dr2).gr g3
  refine ⟨_, dB.rd nt ht, fun h hh => ?_⟩
  rw [cut_take, take_map, hus]
  have dC := dB.gr (Gr.new (o := .lst (us.map fr)) hh)
  refine ⟨h, 130, us, rfl, .inl lupd_same, hu, by omega, by decide, like_k (.two _ _) fun L4 g4 => ⟨true, rfl, iteF (hQ L4 (dC.gr g4))⟩⟩
theorem lw8 {L : LHp} {b c t : Addr} {qs : List Rat} {Q : DK} {y0 y3 y4 y5 y6 y7 y8 y9 y10 y11 y12 : Option D} (B : BagOk L b c) (nt : t ≠ b) (ht : LRd L t (qs.map fr)) (hb : ∀ q ∈ qs, Bd 130 q) (hl : 1 ≤ qs.length ∧ qs.length ≤ 9) (hQ : ∀ L', Q (.bl true) L') :
    d_lw8 { nx := fun _ L' => Q .non L', rt := Q } (stL b t y0 y3 y4 y5 y6 y7 y8 y9 y10 y11 y12) L := by
  unfold d_lw8 dForT stL
  walk_at "dk"
  refine ⟨_, ht, draw_k B ⟨by decide, by decide⟩ fun d L1 hd dr1 => ⟨by decide, ?_⟩⟩
  obtain ⟨m, rfl⟩ := Int.eq_ofNat_of_zero_le hd.1
  refine ⟨fun i τ L' => Dr b c L L' ∧ ∃ y7, τ = stL b t y0 y3 y4 y5 y6 y7 y8 y9 y10 y11 y12, ⟨dr1, _, rfl⟩, fun i d τ L' hd ⟨dr, y7, ey⟩ => ?_, fun τ L' ⟨dr, y7, ey⟩ => ?_⟩
  · subst ey
    have hj : ∃ j : Nat, d = .int (j : Int) := by
      match i, hd with
      | 0, hd => exact ⟨_, (Option.some.inj hd).symm⟩
      | 1, hd => exact ⟨_, (Option.some.inj hd).symm⟩
      | i + 2, hd => simp at hd
    obtain ⟨j, rfl⟩ := hj
    exact lw8b (D0 := { nx := _, rt := _, bk := _, ct := _ }) dr.ok nt (dr.rd nt ht) hb hl.2 fun L2 d2 => ⟨dr.trans d2, _, rfl⟩
  · subst ey
    exact lw9 dr.ok nt (dr.rd nt ht) hb hl hQ
theorem lw7 {L : LHp} {b c t s : Addr} {qs ss : List Rat} {Q : DK} {y0 y3 y4 y7 y8 y9 y10 y11 y12 : Option D} (B : BagOk L b c) (nt : t ≠ b) (ht : LRd L t (qs.map fr)) (hb : ∀ q ∈ qs, Bd 130 q) (hl : 1 ≤ qs.length ∧ qs.length ≤ 9)
    (hs : LRd L s (ss.map fr)) (hsb : ∀ q ∈ ss, Bd 261 q) (ls : ss.length ≤ 9) (ne : rsum ss ≠ 0) (hQ : ∀ L', Q (.bl true) L') :
    d_lw7 { nx := fun _ L' => Q .non L', rt := Q } (stL b t y0 y3 y4 (some (.ref s)) (some (fr (rsum ss))) y7 y8 y9 y10 y11 y12) L := by
  have raws : ∀ us : List Rat, (∀ q ∈ us, Bd 261 q) → RawL 261 (us.map fr) us := fun us h => by
    induction us with
    | nil => exact .nil
    | cons u us ih => exact .cons (h u (List.mem_cons_self ..)).raw (ih fun q hq => h q (List.mem_cons_of_mem _ hq))
  unfold d_lw7 stL
  walk_at "dk"
  have nz : (rsum ss).num ≠ 0 := fun e => ne (Rat.num_eq_zero.mp e)
  rw [decide_eq_false nz]
  refine iteF ?_
  refine ⟨s, 261, _, ss, rfl, hs, raws ss hsb, by rw [List.length_map]; exact ls, by decide, fun L2 g2 => like_k (.two _ _) fun L3 g3 => ⟨true, rfl, iteF ?_⟩⟩
  have dB := ((Dr.refl B).gr g2).gr g3
  exact lw8 dB.ok nt (dB.rd nt ht) hb hl hQ
/-- the steps of a row -/
def stp : List Rat → List Rat
  | a :: b :: r => rabs (a - b) :: stp (b :: r)
  | _ => []
theorem stp_len : ∀ rs : List Rat, (stp rs).length = rs.length - 1
  | [] => rfl
  | [_] => rfl
  | a :: b :: r => by
    show (stp (b :: r)).length + 1 = _
    rw [stp_len (b :: r)]
    simp
theorem stp_get : ∀ {rs : List Rat} {k : Nat} {x y : Rat}, rs[k]? = some x → rs[k + 1]? = some y → (stp rs)[k]? = some (rabs (x - y))
  | a :: b :: r, 0, x, y, h1, h2 => by
    simp at h1 h2
    subst h1 h2
    rfl
  | a :: b :: r, k + 1, x, y, h1, h2 => by
    show (stp (b :: r))[k]? = _
    exact stp_get (rs := b :: r) (by simpa using h1) (by simpa using h2)
  | [], k, x, y, h1, _ => by simp at h1
  | [a], k, x, y, _, h2 => by simp at h2
theorem rabs_le {x y : Rat} (h : x ≤ y) : rabs (x - y) = y - x := by
  unfold rabs
  by_cases e : x - y < 0
  · rw [if_pos e]; grind
  · rw [if_neg e]; grind
theorem stp_sum : ∀ (a : Rat) (rs : List Rat), (a :: rs).Pairwise (· ≤ ·) → rsum (stp (a :: rs)) = (a :: rs).getLast (List.cons_ne_nil _ _) - a
  | a, [], _ => by
    show (0 : Rat) = a - a
    grind
  | a, b :: r, h => by
    have h2 := List.pairwise_cons.mp h
    show rabs (a - b) + rsum (stp (b :: r)) = _
    rw [stp_sum b r h2.2, rabs_le (h2.1 b (List.mem_cons_self ..)), List.getLast_cons (List.cons_ne_nil _ _)]
    grind
theorem last_ge : ∀ (a : Rat) (rs : List Rat), (a :: rs).Pairwise (· ≤ ·) → ∀ x ∈ a :: rs, x ≤ (a :: rs).getLast (List.cons_ne_nil _ _)
  | a, [], _, x, hx => by
    rw [List.mem_singleton.mp hx]
    exact Rat.le_refl
  | a, b :: r, h, x, hx => by
    have h2 := List.pairwise_cons.mp h
    rw [List.getLast_cons (List.cons_ne_nil _ _)]
    rcases List.mem_cons.mp hx with e | e
    · rw [e]
      exact Rat.le_trans (h2.1 b (List.mem_cons_self ..)) (last_ge b r h2.2 b (List.mem_cons_self ..))
    · exact last_ge b r h2.2 x e
theorem first_le (a : Rat) (rs : List Rat) (h : (a :: rs).Pairwise (· ≤ ·)) (x : Rat) (hx : x ∈ a :: rs) : a ≤ x := by
  rcases List.mem_cons.mp hx with e | e
  · rw [e]; exact Rat.le_refl
  · exact (List.pairwise_cons.mp h).1 x e
theorem bd_apart {B : Nat} {p q : Rat} (hp : Bd B p) (hq : Bd B q) : Bd (2 * B + 1) (rabs (p - q)) := by
  have key : ∀ p q : Rat, Bd B p → Bd B q → ¬ p < q → Bd (2 * B + 1) (p - q) := fun p q hp hq h => by
    have e := sub_cross p q
    rw [← e]
    have x1 := mul_lt hp.top hq.botI
    have x2 := mul_lt hq.top hp.botI
    have x3 := sub_lt x1 x2
    rw [show B + B + 1 = 2 * B + 1 by omega] at x3
    refine bd_of _ _ _ (sub_nn h) (Int.mul_pos (den_pos p) (den_pos q)) x3 ?_
    exact Nat.lt_of_lt_of_le (mul_lt hp.botI hq.botI) (Nat.pow_le_pow_right (by decide) (by omega))
  unfold rabs
  by_cases e : p - q < 0
  · rw [if_pos e, show -(p - q) = q - p by grind]
    exact key q p hq hp (by grind)
  · rw [if_neg e]
    exact key p q hp hq (by grind)
theorem stp_bd {B : Nat} : ∀ rs : List Rat, (∀ q ∈ rs, Bd B q) → ∀ q ∈ stp rs, Bd (2 * B + 1) q
  | [], _, q, h => by cases h
  | [_], _, q, h => by cases h
  | a :: b :: r, hb, q, h => by
    have h' : q ∈ rabs (a - b) :: stp (b :: r) := h
    rcases List.mem_cons.mp h' with e | e
    · rw [e]; exact bd_apart (hb a (List.mem_cons_self ..)) (hb b (List.mem_cons_of_mem _ (List.mem_cons_self ..)))
    · exact stp_bd (b :: r) (fun q hq => hb q (List.mem_cons_of_mem _ hq)) q e
theorem rd_law (ds : List D) (L : LHp) (Q : DK) (E : XD) (h : sp_law ds L Q E) : d_law { nx := fun _ L' => Q .non L', rt := Q } (dstart ["script", "bag", "things", "row", "k", "steps", "far", "many", "one", "due", "factors", "other", "told"] ds) L := by
  obtain ⟨ns, rfl, hl, hQ⟩ := h
  show d_lw1 _ _ _
  unfold d_lw1 dLcR
  walk_at "dk"
  refine ⟨ns, rfl, hl, fun b c L1 hb B g1 => ⟨b, c, rfl, B, fun t qs L2 ht dr2 hf ⟨n4, n9⟩ hbd ⟨q0, m0, q1, m1, ne⟩ => ?_⟩⟩
  have nt := B.ne ht
  refine ⟨b, c, t, qs, rfl, dr2.ok, nt, hf, hbd, fun L3 dr3 => ⟨true, rfl, iteF ?_⟩⟩
  have f3 : Fracs L3 t qs := dr3.kp _ _ nt hf
  refine ⟨t, qs, rfl, f3, hbd, n9, fun p rs L4 hp g4 hr pm so => ?_⟩
  have hlen := pm.length_eq
  have hbr : ∀ q ∈ rs, Bd 130 q := fun q hq => hbd q (pm.mem_iff.mp hq)
  have npb := dr3.ok.ne hp
  have d4 : Dr b c L3 L4 := (Dr.refl dr3.ok).gr g4
  have h4 : LRd L4 t (qs.map fr) := .inl (g4 _ _ f3)
  match rs, hlen with
  | [], hlen => simp at hlen; omega
  | a :: rest, hlen =>
  have hlast : (a :: rest)[(a :: rest).length - 1]? = some ((a :: rest).getLast (List.cons_ne_nil _ _)) := by
    rw [← List.getLast?_eq_getElem?, List.getLast?_eq_some_getLast]
  have hmem := List.getLast_mem (List.cons_ne_nil a rest)
  have hsum := stp_sum a rest so
  have hge := last_ge a rest so
  have hle := first_le a rest so
  generalize hz : (a :: rest).getLast (List.cons_ne_nil _ _) = z at hlast hsum hge hmem
  have ne0 : rsum (stp (a :: rest)) ≠ 0 := fun e => by
    rw [hsum] at e
    have ez : z = a := by grind
    have e0 := Rat.le_antisymm (hge q0 (pm.mem_iff.mpr m0)) (by rw [ez]; exact hle q0 (pm.mem_iff.mpr m0))
    have e1 := Rat.le_antisymm (hge q1 (pm.mem_iff.mpr m1)) (by rw [ez]; exact hle q1 (pm.mem_iff.mpr m1))
    exact ne (by rw [e0, e1])
  have far : rabs (a - z) = rsum (stp (a :: rest)) := by rw [hsum, rabs_le (hle z hmem)]
  walk_at "dk"
  refine ⟨_, .inl hr, ?_⟩
  rw [List.length_map]
  have h0 : (a :: rest)[0]? = some a := rfl
  have ma : a ∈ a :: rest := List.mem_cons_self ..
  clear hz
  generalize a :: rest = rs at hr pm so hbr hlen hlast hmem hsum hge hle ne0 far h0 ma ⊢
  have hsl := stp_len rs
  refine ⟨by omega, by omega, fun E hE => ?_⟩
  have nE := d4.ok.ne hE
  have ncE := d4.ok.nc hE
  refine ⟨fun i L' => Dr b c L4 L' ∧ L' E = some (.lst (((stp rs).take i).map fr)), ⟨(Dr.refl d4.ok).gr (Gr.new hE), lupd_same⟩, fun i L' hi ⟨dr, hx⟩ => ?_, fun L' ⟨dr, hx⟩ => ?_⟩
  · have h1 : i < rs.length := by omega
    have h2 : i + 1 < rs.length := by omega
    have e1 := List.getElem?_eq_getElem h1
    have e2 := List.getElem?_eq_getElem h2
    have es := stp_get e1 e2
    unfold lcTurn dTYes
    refine iteT ?_
    walk_at "dk"
    refine ⟨_, dr.rd npb (.inl hr), _, at_gen (j := i) rfl (by rw [List.getElem?_map, e1]; rfl), raw_k dr.ok (hbr _ (List.getElem_mem h1)) fun x1 L5 dr5 r1 => ⟨_, (dr.trans dr5).rd npb (.inl hr), _, at_gen (j := i + 1) rfl (by rw [List.getElem?_map, e2]; rfl), raw_k dr5.ok (hbr _ (List.getElem_mem h2)) fun x2 L6 dr6 r2 => ?_⟩⟩
    have d6 := (dr.trans dr5).trans dr6
    refine ⟨x1, x2, 170, _, _, rfl, r1, r2, by decide, _, dr6.kp _ _ nE (dr5.kp _ _ nE hx), ?_, ⟨d6.ok.upd nE ncE, fun x o nx e => ?_⟩, ?_⟩
    · rw [List.length_map, List.length_take]
      exact Nat.lt_of_le_of_lt (show min i (stp rs).length ≤ 9 by omega) (by decide)
    · rw [lupd_ne (fun z => by rw [z, hE] at e; cases e)]
      exact d6.kp x o nx e
    · rw [take_snoc es, List.map_append, lupd_same]
      rfl
  · have hn : ((rs.length : Int) - 1).toNat = (stp rs).length := by omega
    rw [hn, List.take_length] at hx
    have hr' := dr.rd npb (.inl hr)
    refine ⟨_, hr', _, at_gen (j := 0) rfl (by rw [List.getElem?_map, h0]; rfl), _, hr', ?_⟩
    rw [List.length_map]
    refine ⟨_, hr', _, at_gen (j := rs.length - 1) (by omega) (by rw [List.getElem?_map, hlast]; rfl), 130, a, z, rfl, hbr a ma, hbr z hmem, by decide, ?_⟩
    rw [far]
    exact lw7 dr.ok nt (dr.rd nt h4) hbd ⟨by omega, by omega⟩ (.inl hx) (stp_bd rs hbr) (by omega) ne0 hQ
theorem len_law (ds : List D) (L : LHp) (Q : DK) (E : XD) (h : sp_law ds L Q E) : ds.length = 1 := by obtain ⟨ns, rfl, _⟩ := h; rfl
end K00
namespace K00
open PySem PySem.Spec PyProof.Rows L2 DV FR
/-- a def of the text, by its promise -/
structure Cal (P : Program) (w : World) (K : PySem.W.Frag) (mg : Str → Option Value) (base : Heap) (x : Str) (k : Nat) (sp : DSp) (f : Addr) : Prop where
  F : FnL P w K mg base CX0 k f sp
  m : mg x = some (.ref f)
  kp : PySem.W.keepIn K (.ref f) = true
def topS (i : Nat) : Stmt := PySem.Challenge.pw_howevermany_k00_fractions_in_order.main.body.getD i (.Pass ⟨0, 0, 0, 0⟩)
structure Glb (mg : Str → Option Value) : Prop where
  abs : mg "abs" = none
  all : mg "all" = none
  bool : mg "bool" = none
  dict : mg "dict" = none
  int : mg "int" = none
  isinstance : mg "isinstance" = none
  len : mg "len" = none
  list : mg "list" = none
  max : mg "max" = none
  min : mg "min" = none
  range : mg "range" = none
  str : mg "str" = none
  tuple : mg "tuple" = none
  gcd : mg "gcd" = some (.builtin "math.gcd")
structure Cst (mg : Str → Option Value) : Prop where
  MOST_DIGITS : ∃ t, mg "MOST_DIGITS" = some (.int 60 t)
/-! ### limit: a bound out of the table -/
section
variable {X : Cx} {H0 : Hp} {a b : Expr} {pos : Pos} {ta tb : DE}
def rNotK (d : Addr) (z0 : Str) : DR2 := fun x y L Q => x = .str z0 ∧ y = .ref d ∧ Q (.bl false) L
def rIxK (d : Addr) (z0 : Str) (n : Int) : DR2 := fun x y L Q => x = .ref d ∧ y = .str z0 ∧ Q (.int n) L
theorem sim_notK {d : Addr} {z0 : Str} {u : Value} (e : PySem.W.nsIn X.K d z0 = some (some u)) : Sim2 X.K (fun x y H Q => ∃ (z : Str) (r : Option Value), x = .str z ∧ y = .ref d ∧ PySem.W.nsIn X.K d z = some r ∧ Q (.bl (!r.isSome)) H) (rNotK d z0) := fun x y H dx dy L Q' Q rx ry hL h k => by
  obtain ⟨rfl, rfl, q⟩ := h
  cases rx.str_inv
  cases ry.ref_inv
  exact ⟨z0, some u, rfl, rfl, e, k _ H _ L .refl hL (.bl _) q⟩
theorem pdt_notK {d : Addr} {es : Array DictEntry} {n : Nat} {z0 : Str} {u : Value} (D : KDict X.K X.w d es n) (e : PySem.W.nsIn X.K d z0 = some (some u)) (ha : PD X H0 a ta) (hb : PD X H0 b tb) (hm : behindInMarks .NotIn b = false := by rfl) : PDT X H0 (.Compare a [.NotIn] [b] pos) (dB (dOp (rNotK d z0) ta tb)) :=
  pdt_cmp (op_notIn_kd D) (sim_notK e) ha hb hm
theorem pd_ixK {d : Addr} {es : Array DictEntry} {n : Nat} {z0 : Str} {i : Int} {u : Value} (D : KDict X.K X.w d es n) (e : PySem.W.nsIn X.K d z0 = some (some u)) (ru : RelV (.int i) u) (ha : PD X H0 a ta) (hb : PD X H0 b tb) (hs : PlainIx b := by exact fun _ _ => rfl) : PD X H0 (.Subscript a b pos) (dOp (rIxK d z0 i) ta tb) :=
  PE.imp (pe_ix ix_kdict ha hb hs) (lOp (by
    intro x y H dx dy L Q' Q rx ry hL h k
    obtain ⟨rfl, rfl, q⟩ := h
    cases rx.ref_inv
    cases ry.str_inv
    exact ⟨d, z0, .int i, rfl, rfl, ⟨es, n, u, D.at_, D.lit, e, ru⟩, k _ H _ L .refl hL (.int _) q⟩))
end
abbrev s_limit : Stmt := topS 9
theorem sc_limit : FnScope ["what"] ["what"] (defScope s_limit) := ⟨rfl, rfl, rfl, by decide +kernel, rfl, by decide +kernel, by decide +kernel⟩
def d_limit (d : Addr) : DS :=
  dSeq (dIfS (dOr (dNot (dB (dCB rIsiD (dCons (dVar 0) (dCons (dC (.ty "str")) dNil))))) (dB (dOp (rNotK d (PySem.Str.ofString "bits")) (dVar 0) (dC (.ref d))))) dNever dNext)
    (dRet (dOp (rIxK d (PySem.Str.ofString "bits") 12000) (dC (.ref d)) (dVar 0)))
theorem isi_str {z : Str} {L : LHp} {Q : DK} (h : Q (.bl true) L) : rIsiD [.str z, .ty "str"] L Q := ⟨"str", true, rfl, by decide +kernel, h⟩
theorem rd_limit (d : Addr) (ds : List D) (L : LHp) (Q : DK) (E : XD) (h : sp_limit ds L Q E) : d_limit d { nx := fun _ L' => Q .non L', rt := Q } (dstart ["what"] ds) L := by
  obtain ⟨rfl, hQ⟩ := h
  refine ⟨_, rfl, "str", true, rfl, by decide +kernel, true, rfl, iteF ⟨_, rfl, rfl, rfl, false, rfl, iteF ⟨_, rfl, rfl, rfl, hQ⟩⟩⟩
theorem len_limit (ds : List D) (L : LHp) (Q : DK) (E : XD) (h : sp_limit ds L Q E) : ds.length = 1 := by obtain ⟨rfl, _⟩ := h; rfl
theorem ok_limit {P : Program} {w : World} {K : PySem.W.Frag} {mg : Str → Option Value} {base : Heap} {f : Addr} {fd : FuncData} {d : Addr} {es : Array DictEntry} {n : Nat} {u : Value} (F : FunD K "limit" "limit" (defArgs s_limit) (defBody s_limit) (defScope s_limit) [] [] f fd) (m : mg "limit" = some (.ref f)) (G : Glb mg) (C : Cst mg)
    (mB : mg "BOUNDS" = some (.ref d)) (D : KDict K w d es n) (e : PySem.W.nsIn K d (PySem.Str.ofString "bits") = some (some u)) (ru : RelV (.int 12000) u) : Cal P w K mg base "limit" 1 sp_limit f := by
  have sc := sc_limit
  refine ⟨fnL_mk (N := ["what"]) (ps := ["what"]) F (fun _ _ _ _ _ _ us hl => match us, hl with | [_], _ => rfl) sc_limit len_limit fun cdv A outer s H E ds L Q E' hr h => ⟨d_limit d, ?der, rd_limit d ds L Q E' h⟩, m, F.kp⟩
  case der =>
    exact pdss_cons (pds_if (PDW.pt (pdw_or (pdt_not (pdt_val (pd_cb call_isi sim_isi rfl G.isinstance (by decide +kernel) (pda_cons (pdv 0) (pda_cons (pd_bltn rfl G.str boot_str) pda_nil))))) (pdw_or1 (pdt_notK D e (pdv 0) (pd_glR rfl mB)))))
      (pdss_one pds_never) pdss_nil)
      (pdss_one (pds_ret (pd_ixK D e ru (pd_glR rfl mB) (pdv 0))))
abbrev s_is_number : Stmt := topS 12
theorem sc_is_number : FnScope ["value"] ["value"] (defScope s_is_number) := ⟨rfl, rfl, rfl, by decide +kernel, rfl, by decide +kernel, by decide +kernel⟩
theorem ok_is_number {P : Program} {w : World} {K : PySem.W.Frag} {mg : Str → Option Value} {base : Heap} {f : Addr} {fd : FuncData} (F : FunD K "is_number" "is_number" (defArgs s_is_number) (defBody s_is_number) (defScope s_is_number) [] [] f fd) (m : mg "is_number" = some (.ref f)) (G : Glb mg) (C : Cst mg) : Cal P w K mg base "is_number" 1 sp_is_number f := by
  have sc := sc_is_number
  refine ⟨fnL_mk (N := ["value"]) (ps := ["value"]) F (fun _ _ _ _ _ _ us hl => match us, hl with | [_], _ => rfl) sc_is_number len_is_number fun cdv A outer s H E ds L Q E' hr h => ⟨d_is_number, ?der, rd_is_number ds L Q E' h⟩, m, F.kp⟩
  case der =>
    exact (pdss_one (pds_ret (pd_and (pd_cb call_isi sim_isi rfl G.isinstance (by decide +kernel) (pda_cons (pdv 0) (pda_cons (pd_bltn rfl G.int boot_int) pda_nil))) (pd_one (pd_not (pd_cb call_isi sim_isi rfl G.isinstance (by decide +kernel) (pda_cons (pdv 0) (pda_cons (pd_bltn rfl G.bool boot_bool) pda_nil))))))))
abbrev s_is_fraction : Stmt := topS 13
theorem sc_is_fraction : FnScope ["value", "top", "bottom"] ["value"] (defScope s_is_fraction) := ⟨rfl, rfl, rfl, by decide +kernel, rfl, by decide +kernel, by decide +kernel⟩
theorem ok_is_fraction {P : Program} {w : World} {K : PySem.W.Frag} {mg : Str → Option Value} {base : Heap} {f : Addr} {fd : FuncData} {f_is_number : Addr} (F : FunD K "is_fraction" "is_fraction" (defArgs s_is_fraction) (defBody s_is_fraction) (defScope s_is_fraction) [] [] f fd) (m : mg "is_fraction" = some (.ref f)) (G : Glb mg) (C : Cst mg) (c_is_number : Cal P w K mg base "is_number" 1 sp_is_number f_is_number) : Cal P w K mg base "is_fraction" 2 sp_is_fraction f := by
  have sc := sc_is_fraction
  refine ⟨fnL_mk (N := ["value", "top", "bottom"]) (ps := ["value"]) F (fun _ _ _ _ _ _ us hl => match us, hl with | [_], _ => rfl) sc_is_fraction len_is_fraction fun cdv A outer s H E ds L Q E' hr h => ⟨d_is_fraction, ?der, rd_is_fraction ds L Q E' h⟩, m, F.kp⟩
  case der =>
    exact (pdss_cons (pds_if (pdt_val (pd_call (c_is_number.F.mono (by decide)) hr c_is_number.kp c_is_number.m pass0 xrel0 (pda_cons (pdv 0) pda_nil)))
      (pdss_one (pds_ret (pd_ge (pdv 0) pd_int)))
      pdss_nil)
      (pdss_cons (pds_if (PDW.pt (pdw_or (pdt_not (pdt_val (pd_cb call_isi sim_isi rfl G.isinstance (by decide +kernel) (pda_cons (pdv 0) (pda_cons (pd_bltn rfl G.tuple boot_tuple) pda_nil))))) (pdw_or1 (pdt_ne hr.units (pd_cb call_len sim_len rfl G.len (by decide +kernel) (pda_cons (pdv 0) pda_nil)) pd_int))))
      (pdss_one (pds_ret pd_bl))
      pdss_nil)
      (pdss_cons (pds_asg (pdv 0) (pdg_tup rfl (pdgs_cons (pdg_name (i := 1) sc.nd) (pdgs_cons (pdg_name (i := 2) sc.nd) pdgs_nil))))
      (pdss_one (pds_ret (pd_and (pd_call (c_is_number.F.mono (by decide)) hr c_is_number.kp c_is_number.m pass0 xrel0 (pda_cons (pdv 1) pda_nil)) (pd_and (pd_call (c_is_number.F.mono (by decide)) hr c_is_number.kp c_is_number.m pass0 xrel0 (pda_cons (pdv 2) pda_nil)) (pd_and (pd_ge (pdv 1) pd_int) (pd_one (pd_ge (pdv 2) pd_int))))))))))
abbrev s__check : Stmt := topS 14
theorem sc__check : FnScope ["values", "value"] ["values"] (defScope s__check) := ⟨rfl, rfl, rfl, by decide +kernel, rfl, by decide +kernel, by decide +kernel⟩
theorem ok__check {P : Program} {w : World} {K : PySem.W.Frag} {mg : Str → Option Value} {base : Heap} {f : Addr} {fd : FuncData} {f_is_fraction : Addr} (F : FunD K "_check" "_check" (defArgs s__check) (defBody s__check) (defScope s__check) [] [] f fd) (m : mg "_check" = some (.ref f)) (G : Glb mg) (C : Cst mg) (c_is_fraction : Cal P w K mg base "is_fraction" 2 sp_is_fraction f_is_fraction) : Cal P w K mg base "_check" 3 sp__check f := by
  have sc := sc__check
  refine ⟨fnL_mk (N := ["values", "value"]) (ps := ["values"]) F (fun _ _ _ _ _ _ us hl => match us, hl with | [_], _ => rfl) sc__check len__check fun cdv A outer s H E ds L Q E' hr h => ⟨d__check, ?der, rd__check ds L Q E' h⟩, m, F.kp⟩
  case der =>
    exact (pdss_one (pds_forT PassesOwn.never rfl (pdv 0) (pdg_name (i := 1) sc.nd) (pdss_one (pds_if (pdt_not (pdt_val (pd_call (c_is_fraction.F.mono (by decide)) hr c_is_fraction.kp c_is_fraction.m pass0 xrel0 (pda_cons (pdv 1) pda_nil))))
      (pdss_one pds_never)
      pdss_nil))))
abbrev s__reduced : Stmt := topS 15
theorem sc__reduced : FnScope ["value", "top", "bottom", "common"] ["value"] (defScope s__reduced) := ⟨rfl, rfl, rfl, by decide +kernel, rfl, by decide +kernel, by decide +kernel⟩
theorem ok__reduced {P : Program} {w : World} {K : PySem.W.Frag} {mg : Str → Option Value} {base : Heap} {f : Addr} {fd : FuncData} (F : FunD K "_reduced" "_reduced" (defArgs s__reduced) (defBody s__reduced) (defScope s__reduced) [] [] f fd) (m : mg "_reduced" = some (.ref f)) (G : Glb mg) (C : Cst mg) : Cal P w K mg base "_reduced" 1 sp__reduced f := by
  have sc := sc__reduced
  refine ⟨fnL_mk (N := ["value", "top", "bottom", "common"]) (ps := ["value"]) F (fun _ _ _ _ _ _ us hl => match us, hl with | [_], _ => rfl) sc__reduced len__reduced fun cdv A outer s H E ds L Q E' hr h => ⟨d__reduced, ?der, rd__reduced ds L Q E' h⟩, m, F.kp⟩
  case der =>
    exact (pdss_cons (pds_if (pdt_not (pdt_val (pd_cb call_isi sim_isi rfl G.isinstance (by decide +kernel) (pda_cons (pdv 0) (pda_cons (pd_bltn rfl G.tuple boot_tuple) pda_nil)))))
      (pdss_one (pds_ret (pd_tup (pda_cons (pdv 0) (pda_cons pd_int pda_nil)))))
      pdss_nil)
      (pdss_cons (pds_asg (pdv 0) (pdg_tup rfl (pdgs_cons (pdg_name (i := 1) sc.nd) (pdgs_cons (pdg_name (i := 2) sc.nd) pdgs_nil))))
      (pdss_cons (pds_set (i := 3) sc.nd (pd_gcd rfl G.gcd (pda_cons (pdv 1) (pda_cons (pdv 2) pda_nil))))
      (pdss_one (pds_ret (pd_tup (pda_cons (pd_div (pdv 1) (pdv 3)) (pda_cons (pd_div (pdv 2) (pdv 3)) pda_nil))))))))
abbrev s__is_count : Stmt := topS 16
theorem sc__is_count : FnScope ["text", "zero", "sign"] ["text", "zero"] (defScope s__is_count) := ⟨rfl, rfl, rfl, by decide +kernel, rfl, by decide +kernel, by decide +kernel⟩
theorem ok__is_count {P : Program} {w : World} {K : PySem.W.Frag} {mg : Str → Option Value} {base : Heap} {f : Addr} {fd : FuncData} (F : FunD K "_is_count" "_is_count" (defArgs s__is_count) (defBody s__is_count) (defScope s__is_count) [] [] f fd) (m : mg "_is_count" = some (.ref f)) (G : Glb mg) (C : Cst mg) : Cal P w K mg base "_is_count" 1 sp__is_count f := by
  have sc := sc__is_count
  refine ⟨fnL_mk (N := ["text", "zero", "sign"]) (ps := ["text", "zero"]) F (fun _ _ _ _ _ _ us hl => match us, hl with | [_, _], _ => rfl) sc__is_count len__is_count fun cdv A outer s H E ds L Q E' hr h => ⟨d__is_count, ?der, rd__is_count ds L Q E' h⟩, m, F.kp⟩
  case der =>
    exact (pdss_cons (pds_if (pdt_eq hr.units (pdv 0) pd_str)
      (pdss_one (pds_ret (pdv 1)))
      pdss_nil)
      (pdss_cons (pds_if (PDW.pt (pdw_or (pdt_eq hr.units (pdv 0) pd_str) (pdw_or (pdt_gt (pd_cb call_len sim_len rfl G.len (by decide +kernel) (pda_cons (pdv 0) pda_nil)) (pd_glI rfl (C.MOST_DIGITS).choose_spec ⟨_, rfl⟩)) (pdw_or1 (pdt_eq hr.units (pd_ix (pdv 0) pd_int) pd_str)))))
      (pdss_one (pds_ret pd_bl))
      pdss_nil)
      (pdss_one (pds_ret (pd_cb (cr_all rfl) sim_all rfl G.all (by decide +kernel) (pda_cons (pd_lcS (j := 2) rfl sc.nd (pdv 0) (show blkC ["text", "zero", "sign"] (defScope s__is_count) _ _ = true by decide +kernel) (fun _ _ _ _ _ => pdts_nil) (fun _ _ _ _ _ => (pd_inS (pdv 2) pd_str)) (hg := fun _ _ _ _ _ => pg_name (i := 2) sc.nd rfl (Or.inl rfl))) pda_nil))))))
abbrev s_fraction_or_none : Stmt := topS 17
theorem sc_fraction_or_none : FnScope ["text", "cut", "top", "bottom"] ["text"] (defScope s_fraction_or_none) := ⟨rfl, rfl, rfl, by decide +kernel, rfl, by decide +kernel, by decide +kernel⟩
theorem ok_fraction_or_none {P : Program} {w : World} {K : PySem.W.Frag} {mg : Str → Option Value} {base : Heap} {f : Addr} {fd : FuncData} {f__is_count f__reduced : Addr} (F : FunD K "fraction_or_none" "fraction_or_none" (defArgs s_fraction_or_none) (defBody s_fraction_or_none) (defScope s_fraction_or_none) [] [] f fd) (m : mg "fraction_or_none" = some (.ref f)) (G : Glb mg) (C : Cst mg) (c__is_count : Cal P w K mg base "_is_count" 1 sp__is_count f__is_count) (c__reduced : Cal P w K mg base "_reduced" 1 sp__reduced f__reduced) : Cal P w K mg base "fraction_or_none" 2 sp_fraction_or_none f := by
  have sc := sc_fraction_or_none
  refine ⟨fnL_mk (N := ["text", "cut", "top", "bottom"]) (ps := ["text"]) F (fun _ _ _ _ _ _ us hl => match us, hl with | [_], _ => rfl) sc_fraction_or_none len_fraction_or_none fun cdv A outer s H E ds L Q E' hr h => ⟨d_fraction_or_none, ?der, rd_fraction_or_none ds L Q E' h⟩, m, F.kp⟩
  case der =>
    exact (pdss_cons (pds_set (i := 1) sc.nd (pd_find (pdv 0) (pda_cons pd_str pda_nil)))
      (pdss_cons (pds_if (pdt_lt (pdv 1) pd_int)
      (pdss_one (pds_ret (pd_if (pdt_val (pd_call (c__is_count.F.mono (by decide)) hr c__is_count.kp c__is_count.m pass0 xrel0 (pda_cons (pdv 0) (pda_cons pd_bl pda_nil)))) (pd_tup (pda_cons (pd_cty call_intU sim_int rfl G.int (by decide +kernel) (pda_cons (pdv 0) pda_nil)) (pda_cons pd_int pda_nil))) pd_non)))
      pdss_nil)
      (pdss_cons (pds_set (i := 2) sc.nd (pd_slice (pdv 0) pdo_none (pdo_some (pdv 1))))
      (pdss_cons (pds_set (i := 3) sc.nd (pd_slice (pdv 0) (pdo_some (pd_add (pdv 1) pd_int)) pdo_none))
      (pdss_cons (pds_if (PDW.pt (pdw_or (pdt_not (pdt_val (pd_call (c__is_count.F.mono (by decide)) hr c__is_count.kp c__is_count.m pass0 xrel0 (pda_cons (pdv 2) (pda_cons pd_bl pda_nil))))) (pdw_or1 (pdt_not (pdt_val (pd_call (c__is_count.F.mono (by decide)) hr c__is_count.kp c__is_count.m pass0 xrel0 (pda_cons (pdv 3) (pda_cons pd_bl pda_nil))))))))
      (pdss_one (pds_ret pd_non))
      pdss_nil)
      (pdss_one (pds_ret (pd_call (c__reduced.F.mono (by decide)) hr c__reduced.kp c__reduced.m pass0 xrel0 (pda_cons (pd_tup (pda_cons (pd_cty call_intU sim_int rfl G.int (by decide +kernel) (pda_cons (pdv 2) pda_nil)) (pda_cons (pd_cty call_intU sim_int rfl G.int (by decide +kernel) (pda_cons (pdv 3) pda_nil)) pda_nil))) pda_nil)))))))))
abbrev s_read_fraction : Stmt := topS 18
theorem sc_read_fraction : FnScope ["text", "value"] ["text"] (defScope s_read_fraction) := ⟨rfl, rfl, rfl, by decide +kernel, rfl, by decide +kernel, by decide +kernel⟩
theorem ok_read_fraction {P : Program} {w : World} {K : PySem.W.Frag} {mg : Str → Option Value} {base : Heap} {f : Addr} {fd : FuncData} {f_fraction_or_none : Addr} (F : FunD K "read_fraction" "read_fraction" (defArgs s_read_fraction) (defBody s_read_fraction) (defScope s_read_fraction) [] [] f fd) (m : mg "read_fraction" = some (.ref f)) (G : Glb mg) (C : Cst mg) (c_fraction_or_none : Cal P w K mg base "fraction_or_none" 2 sp_fraction_or_none f_fraction_or_none) : Cal P w K mg base "read_fraction" 3 sp_read_fraction f := by
  have sc := sc_read_fraction
  refine ⟨fnL_mk (N := ["text", "value"]) (ps := ["text"]) F (fun _ _ _ _ _ _ us hl => match us, hl with | [_], _ => rfl) sc_read_fraction len_read_fraction fun cdv A outer s H E ds L Q E' hr h => ⟨d_read_fraction, ?der, rd_read_fraction ds L Q E' h⟩, m, F.kp⟩
  case der =>
    exact (pdss_cons (pds_if (pdt_not (pdt_val (pd_cb call_isi sim_isi rfl G.isinstance (by decide +kernel) (pda_cons (pdv 0) (pda_cons (pd_bltn rfl G.str boot_str) pda_nil)))))
      (pdss_one pds_never)
      pdss_nil)
      (pdss_cons (pds_set (i := 1) sc.nd (pd_call (c_fraction_or_none.F.mono (by decide)) hr c_fraction_or_none.kp c_fraction_or_none.m pass0 xrel0 (pda_cons (pdv 0) pda_nil)))
      (pdss_cons (pds_if (pdt_isN (pdv 1) pd_non)
      (pdss_one pds_never)
      pdss_nil)
      (pdss_one (pds_ret (pdv 1))))))
abbrev s_lowest : Stmt := topS 19
theorem sc_lowest : FnScope ["value"] ["value"] (defScope s_lowest) := ⟨rfl, rfl, rfl, by decide +kernel, rfl, by decide +kernel, by decide +kernel⟩
theorem ok_lowest {P : Program} {w : World} {K : PySem.W.Frag} {mg : Str → Option Value} {base : Heap} {f : Addr} {fd : FuncData} {f__check f__reduced : Addr} (F : FunD K "lowest" "lowest" (defArgs s_lowest) (defBody s_lowest) (defScope s_lowest) [] [] f fd) (m : mg "lowest" = some (.ref f)) (G : Glb mg) (C : Cst mg) (c__check : Cal P w K mg base "_check" 3 sp__check f__check) (c__reduced : Cal P w K mg base "_reduced" 1 sp__reduced f__reduced) : Cal P w K mg base "lowest" 4 sp_lowest f := by
  have sc := sc_lowest
  refine ⟨fnL_mk (N := ["value"]) (ps := ["value"]) F (fun _ _ _ _ _ _ us hl => match us, hl with | [_], _ => rfl) sc_lowest len_lowest fun cdv A outer s H E ds L Q E' hr h => ⟨d_lowest, ?der, rd_lowest ds L Q E' h⟩, m, F.kp⟩
  case der =>
    exact (pdss_cons (pds_expr (pd_call (c__check.F.mono (by decide)) hr c__check.kp c__check.m pass0 xrel0 (pda_cons (pd_tup (pda_cons (pdv 0) pda_nil)) pda_nil)))
      (pdss_one (pds_ret (pd_call (c__reduced.F.mono (by decide)) hr c__reduced.kp c__reduced.m pass0 xrel0 (pda_cons (pdv 0) pda_nil)))))
abbrev s_fraction_text : Stmt := topS 20
theorem sc_fraction_text : FnScope ["value", "top", "bottom", "bits"] ["value"] (defScope s_fraction_text) := ⟨rfl, rfl, rfl, by decide +kernel, rfl, by decide +kernel, by decide +kernel⟩
theorem ok_fraction_text {P : Program} {w : World} {K : PySem.W.Frag} {mg : Str → Option Value} {base : Heap} {f : Addr} {fd : FuncData} {f__check f__reduced f_limit : Addr} (F : FunD K "fraction_text" "fraction_text" (defArgs s_fraction_text) (defBody s_fraction_text) (defScope s_fraction_text) [] [] f fd) (m : mg "fraction_text" = some (.ref f)) (G : Glb mg) (C : Cst mg) (c__check : Cal P w K mg base "_check" 3 sp__check f__check) (c__reduced : Cal P w K mg base "_reduced" 1 sp__reduced f__reduced) (c_limit : Cal P w K mg base "limit" 1 sp_limit f_limit) : Cal P w K mg base "fraction_text" 4 sp_fraction_text f := by
  have sc := sc_fraction_text
  refine ⟨fnL_mk (N := ["value", "top", "bottom", "bits"]) (ps := ["value"]) F (fun _ _ _ _ _ _ us hl => match us, hl with | [_], _ => rfl) sc_fraction_text len_fraction_text fun cdv A outer s H E ds L Q E' hr h => ⟨d_fraction_text, ?der, rd_fraction_text ds L Q E' h⟩, m, F.kp⟩
  case der =>
    exact (pdss_cons (pds_expr (pd_call (c__check.F.mono (by decide)) hr c__check.kp c__check.m pass0 xrel0 (pda_cons (pd_tup (pda_cons (pdv 0) pda_nil)) pda_nil)))
      (pdss_cons (pds_asg (pd_call (c__reduced.F.mono (by decide)) hr c__reduced.kp c__reduced.m pass0 xrel0 (pda_cons (pdv 0) pda_nil)) (pdg_tup rfl (pdgs_cons (pdg_name (i := 1) sc.nd) (pdgs_cons (pdg_name (i := 2) sc.nd) pdgs_nil))))
      (pdss_cons (pds_set (i := 3) sc.nd (pd_cb (call_max2 rfl) sim_I2C rfl G.max (by decide +kernel) (pda_cons (pd_bits (pdv 1)) (pda_cons (pd_bits (pdv 2)) pda_nil))))
      (pdss_cons (pds_if (pdt_gt (pdv 3) (pd_call (c_limit.F.mono (by decide)) hr c_limit.kp c_limit.m pass0 xrel0 (pda_cons pd_str pda_nil)))
      (pdss_one pds_never)
      pdss_nil)
      (pdss_one (pds_ret (pd_if (pdt_eq hr.units (pdv 2) pd_int) (pd_cty call_str_int sim_str rfl G.str (by decide +kernel) (pda_cons (pdv 1) pda_nil)) (pd_joined (pdj_cons (pd_fmt (pdv 1)) (pdj_cons pd_str (pdj_cons (pd_fmt (pdv 2)) pdj_nil)))))))))))
abbrev s_plus : Stmt := topS 21
theorem sc_plus : FnScope ["fractions", "top", "bottom", "value", "over", "under", "common"] ["fractions"] (defScope s_plus) := ⟨rfl, rfl, rfl, by decide +kernel, rfl, by decide +kernel, by decide +kernel⟩
theorem ok_plus {P : Program} {w : World} {K : PySem.W.Frag} {mg : Str → Option Value} {base : Heap} {f : Addr} {fd : FuncData} {f__check f__reduced : Addr} (F : FunD K "plus" "plus" (defArgs s_plus) (defBody s_plus) (defScope s_plus) [] [] f fd) (m : mg "plus" = some (.ref f)) (G : Glb mg) (C : Cst mg) (c__check : Cal P w K mg base "_check" 3 sp__check f__check) (c__reduced : Cal P w K mg base "_reduced" 1 sp__reduced f__reduced) : Cal P w K mg base "plus" 4 sp_plus f := by
  have sc := sc_plus
  refine ⟨fnL_star (N := ["fractions", "top", "bottom", "value", "over", "under", "common"]) (pv := "fractions") F sc_plus (fun _ _ _ _ _ _ rest => match rest with | [] => rfl | _ :: _ => rfl) fun cdv A outer s H E ds L Q E' hr h => ⟨d_plus, ?der, rd_plus ds L Q E' h⟩, m, F.kp⟩
  case der =>
    exact (pdss_cons (pds_expr (pd_call (c__check.F.mono (by decide)) hr c__check.kp c__check.m pass0 xrel0 (pda_cons (pdv 0) pda_nil)))
      (pdss_cons (pds_set (i := 1) sc.nd pd_int)
      (pdss_cons (pds_set (i := 2) sc.nd pd_int)
      (pdss_cons (pds_forT PassesOwn.never rfl (pdv 0) (pdg_name (i := 3) sc.nd) (pdss_cons (pds_asg (pd_call (c__reduced.F.mono (by decide)) hr c__reduced.kp c__reduced.m pass0 xrel0 (pda_cons (pdv 3) pda_nil)) (pdg_tup rfl (pdgs_cons (pdg_name (i := 4) sc.nd) (pdgs_cons (pdg_name (i := 5) sc.nd) pdgs_nil))))
      (pdss_cons (pds_set (i := 6) sc.nd (pd_gcd rfl G.gcd (pda_cons (pdv 2) (pda_cons (pdv 5) pda_nil))))
      (pdss_cons (pds_set (i := 1) sc.nd (pd_add (pd_mul (pdv 1) (pd_div (pdv 5) (pdv 6))) (pd_mul (pdv 4) (pd_div (pdv 2) (pdv 6)))))
      (pdss_one (pds_set (i := 2) sc.nd (pd_mul (pd_div (pdv 2) (pdv 6)) (pdv 5))))))))
      (pdss_one (pds_ret (pd_call (c__reduced.F.mono (by decide)) hr c__reduced.kp c__reduced.m pass0 xrel0 (pda_cons (pd_tup (pda_cons (pdv 1) (pda_cons (pdv 2) pda_nil))) pda_nil))))))))
abbrev s_times : Stmt := topS 22
theorem sc_times : FnScope ["fractions", "product", "value", "over", "under"] ["fractions"] (defScope s_times) := ⟨rfl, rfl, rfl, by decide +kernel, rfl, by decide +kernel, by decide +kernel⟩
theorem ok_times {P : Program} {w : World} {K : PySem.W.Frag} {mg : Str → Option Value} {base : Heap} {f : Addr} {fd : FuncData} {f__check f__reduced : Addr} (F : FunD K "times" "times" (defArgs s_times) (defBody s_times) (defScope s_times) [] [] f fd) (m : mg "times" = some (.ref f)) (G : Glb mg) (C : Cst mg) (c__check : Cal P w K mg base "_check" 3 sp__check f__check) (c__reduced : Cal P w K mg base "_reduced" 1 sp__reduced f__reduced) : Cal P w K mg base "times" 4 sp_times f := by
  have sc := sc_times
  refine ⟨fnL_star (N := ["fractions", "product", "value", "over", "under"]) (pv := "fractions") F sc_times (fun _ _ _ _ _ _ rest => match rest with | [] => rfl | _ :: _ => rfl) fun cdv A outer s H E ds L Q E' hr h => ⟨d_times, ?der, rd_times ds L Q E' h⟩, m, F.kp⟩
  case der =>
    exact (pdss_cons (pds_expr (pd_call (c__check.F.mono (by decide)) hr c__check.kp c__check.m pass0 xrel0 (pda_cons (pdv 0) pda_nil)))
      (pdss_cons (pds_set (i := 1) sc.nd (pd_tup (pda_cons pd_int (pda_cons pd_int pda_nil))))
      (pdss_cons (pds_forT PassesOwn.never rfl (pdv 0) (pdg_name (i := 2) sc.nd) (pdss_cons (pds_asg (pd_call (c__reduced.F.mono (by decide)) hr c__reduced.kp c__reduced.m pass0 xrel0 (pda_cons (pdv 2) pda_nil)) (pdg_tup rfl (pdgs_cons (pdg_name (i := 3) sc.nd) (pdgs_cons (pdg_name (i := 4) sc.nd) pdgs_nil))))
      (pdss_one (pds_set (i := 1) sc.nd (pd_call (c__reduced.F.mono (by decide)) hr c__reduced.kp c__reduced.m pass0 xrel0 (pda_cons (pd_tup (pda_cons (pd_mul (pd_ix (pdv 1) pd_int) (pdv 3)) (pda_cons (pd_mul (pd_ix (pdv 1) pd_int) (pdv 4)) pda_nil))) pda_nil))))))
      (pdss_one (pds_ret (pdv 1))))))
abbrev s_quotient : Stmt := topS 23
theorem sc_quotient : FnScope ["one", "other", "top", "bottom", "over", "under"] ["one", "other"] (defScope s_quotient) := ⟨rfl, rfl, rfl, by decide +kernel, rfl, by decide +kernel, by decide +kernel⟩
theorem ok_quotient {P : Program} {w : World} {K : PySem.W.Frag} {mg : Str → Option Value} {base : Heap} {f : Addr} {fd : FuncData} {f__check f__reduced : Addr} (F : FunD K "quotient" "quotient" (defArgs s_quotient) (defBody s_quotient) (defScope s_quotient) [] [] f fd) (m : mg "quotient" = some (.ref f)) (G : Glb mg) (C : Cst mg) (c__check : Cal P w K mg base "_check" 3 sp__check f__check) (c__reduced : Cal P w K mg base "_reduced" 1 sp__reduced f__reduced) : Cal P w K mg base "quotient" 4 sp_quotient f := by
  have sc := sc_quotient
  refine ⟨fnL_mk (N := ["one", "other", "top", "bottom", "over", "under"]) (ps := ["one", "other"]) F (fun _ _ _ _ _ _ us hl => match us, hl with | [_, _], _ => rfl) sc_quotient len_quotient fun cdv A outer s H E ds L Q E' hr h => ⟨d_quotient, ?der, rd_quotient ds L Q E' h⟩, m, F.kp⟩
  case der =>
    exact (pdss_cons (pds_expr (pd_call (c__check.F.mono (by decide)) hr c__check.kp c__check.m pass0 xrel0 (pda_cons (pd_tup (pda_cons (pdv 0) (pda_cons (pdv 1) pda_nil))) pda_nil)))
      (pdss_cons (pds_asg (pd_call (c__reduced.F.mono (by decide)) hr c__reduced.kp c__reduced.m pass0 xrel0 (pda_cons (pdv 0) pda_nil)) (pdg_tup rfl (pdgs_cons (pdg_name (i := 2) sc.nd) (pdgs_cons (pdg_name (i := 3) sc.nd) pdgs_nil))))
      (pdss_cons (pds_asg (pd_call (c__reduced.F.mono (by decide)) hr c__reduced.kp c__reduced.m pass0 xrel0 (pda_cons (pdv 1) pda_nil)) (pdg_tup rfl (pdgs_cons (pdg_name (i := 4) sc.nd) (pdgs_cons (pdg_name (i := 5) sc.nd) pdgs_nil))))
      (pdss_cons (pds_if (pdt_eq hr.units (pdv 4) pd_int)
      (pdss_one pds_never)
      pdss_nil)
      (pdss_one (pds_ret (pd_call (c__reduced.F.mono (by decide)) hr c__reduced.kp c__reduced.m pass0 xrel0 (pda_cons (pd_tup (pda_cons (pd_mul (pdv 2) (pdv 5)) (pda_cons (pd_mul (pdv 3) (pdv 4)) pda_nil))) pda_nil))))))))
abbrev s_apart : Stmt := topS 24
theorem sc_apart : FnScope ["one", "other", "top", "bottom", "over", "under"] ["one", "other"] (defScope s_apart) := ⟨rfl, rfl, rfl, by decide +kernel, rfl, by decide +kernel, by decide +kernel⟩
theorem ok_apart {P : Program} {w : World} {K : PySem.W.Frag} {mg : Str → Option Value} {base : Heap} {f : Addr} {fd : FuncData} {f__check f__reduced : Addr} (F : FunD K "apart" "apart" (defArgs s_apart) (defBody s_apart) (defScope s_apart) [] [] f fd) (m : mg "apart" = some (.ref f)) (G : Glb mg) (C : Cst mg) (c__check : Cal P w K mg base "_check" 3 sp__check f__check) (c__reduced : Cal P w K mg base "_reduced" 1 sp__reduced f__reduced) : Cal P w K mg base "apart" 4 sp_apart f := by
  have sc := sc_apart
  refine ⟨fnL_mk (N := ["one", "other", "top", "bottom", "over", "under"]) (ps := ["one", "other"]) F (fun _ _ _ _ _ _ us hl => match us, hl with | [_, _], _ => rfl) sc_apart len_apart fun cdv A outer s H E ds L Q E' hr h => ⟨d_apart, ?der, rd_apart ds L Q E' h⟩, m, F.kp⟩
  case der =>
    exact (pdss_cons (pds_expr (pd_call (c__check.F.mono (by decide)) hr c__check.kp c__check.m pass0 xrel0 (pda_cons (pd_tup (pda_cons (pdv 0) (pda_cons (pdv 1) pda_nil))) pda_nil)))
      (pdss_cons (pds_asg (pd_call (c__reduced.F.mono (by decide)) hr c__reduced.kp c__reduced.m pass0 xrel0 (pda_cons (pdv 0) pda_nil)) (pdg_tup rfl (pdgs_cons (pdg_name (i := 2) sc.nd) (pdgs_cons (pdg_name (i := 3) sc.nd) pdgs_nil))))
      (pdss_cons (pds_asg (pd_call (c__reduced.F.mono (by decide)) hr c__reduced.kp c__reduced.m pass0 xrel0 (pda_cons (pdv 1) pda_nil)) (pdg_tup rfl (pdgs_cons (pdg_name (i := 4) sc.nd) (pdgs_cons (pdg_name (i := 5) sc.nd) pdgs_nil))))
      (pdss_one (pds_ret (pd_call (c__reduced.F.mono (by decide)) hr c__reduced.kp c__reduced.m pass0 xrel0 (pda_cons (pd_tup (pda_cons (pd_cb call_abs sim_abs rfl G.abs (by decide +kernel) (pda_cons (pd_sub (pd_mul (pdv 2) (pdv 5)) (pd_mul (pdv 4) (pdv 3))) pda_nil)) (pda_cons (pd_mul (pdv 3) (pdv 5)) pda_nil))) pda_nil)))))))
abbrev s_is_less : Stmt := topS 25
theorem sc_is_less : FnScope ["one", "other", "top", "bottom", "over", "under"] ["one", "other"] (defScope s_is_less) := ⟨rfl, rfl, rfl, by decide +kernel, rfl, by decide +kernel, by decide +kernel⟩
theorem ok_is_less {P : Program} {w : World} {K : PySem.W.Frag} {mg : Str → Option Value} {base : Heap} {f : Addr} {fd : FuncData} {f__check f__reduced : Addr} (F : FunD K "is_less" "is_less" (defArgs s_is_less) (defBody s_is_less) (defScope s_is_less) [] [] f fd) (m : mg "is_less" = some (.ref f)) (G : Glb mg) (C : Cst mg) (c__check : Cal P w K mg base "_check" 3 sp__check f__check) (c__reduced : Cal P w K mg base "_reduced" 1 sp__reduced f__reduced) : Cal P w K mg base "is_less" 4 sp_is_less f := by
  have sc := sc_is_less
  refine ⟨fnL_mk (N := ["one", "other", "top", "bottom", "over", "under"]) (ps := ["one", "other"]) F (fun _ _ _ _ _ _ us hl => match us, hl with | [_, _], _ => rfl) sc_is_less len_is_less fun cdv A outer s H E ds L Q E' hr h => ⟨d_is_less, ?der, rd_is_less ds L Q E' h⟩, m, F.kp⟩
  case der =>
    exact (pdss_cons (pds_expr (pd_call (c__check.F.mono (by decide)) hr c__check.kp c__check.m pass0 xrel0 (pda_cons (pd_tup (pda_cons (pdv 0) (pda_cons (pdv 1) pda_nil))) pda_nil)))
      (pdss_cons (pds_asg (pd_call (c__reduced.F.mono (by decide)) hr c__reduced.kp c__reduced.m pass0 xrel0 (pda_cons (pdv 0) pda_nil)) (pdg_tup rfl (pdgs_cons (pdg_name (i := 2) sc.nd) (pdgs_cons (pdg_name (i := 3) sc.nd) pdgs_nil))))
      (pdss_cons (pds_asg (pd_call (c__reduced.F.mono (by decide)) hr c__reduced.kp c__reduced.m pass0 xrel0 (pda_cons (pdv 1) pda_nil)) (pdg_tup rfl (pdgs_cons (pdg_name (i := 4) sc.nd) (pdgs_cons (pdg_name (i := 5) sc.nd) pdgs_nil))))
      (pdss_one (pds_ret (pd_lt (pd_mul (pdv 2) (pdv 5)) (pd_mul (pdv 4) (pdv 3))))))))
abbrev s__law_bag : Stmt := topS 27
theorem sc__law_bag : FnScope ["script", "mixed", "at"] ["script"] (defScope s__law_bag) := ⟨rfl, rfl, rfl, by decide +kernel, rfl, by decide +kernel, by decide +kernel⟩
theorem ok__law_bag {P : Program} {w : World} {K : PySem.W.Frag} {mg : Str → Option Value} {base : Heap} {f : Addr} {fd : FuncData} (F : FunD K "_law_bag" "_law_bag" (defArgs s__law_bag) (defBody s__law_bag) (defScope s__law_bag) [] [] f fd) (m : mg "_law_bag" = some (.ref f)) (G : Glb mg) (C : Cst mg) : Cal P w K mg base "_law_bag" 1 sp__law_bag f := by
  have sc := sc__law_bag
  refine ⟨fnL_mk (N := ["script", "mixed", "at"]) (ps := ["script"]) F (fun _ _ _ _ _ _ us hl => match us, hl with | [_], _ => rfl) sc__law_bag len__law_bag fun cdv A outer s H E ds L Q E' hr h => ⟨d__law_bag, ?der, rd__law_bag ds L Q E' h⟩, m, F.kp⟩
  case der =>
    exact (pdss_cons (pds_set (i := 1) sc.nd pd_int)
      (pdss_cons (pds_forR PassesOwn.never rfl G.range (pda_cons (pd_cb (call_min2 rfl) sim_I2C rfl G.min (by decide +kernel) (pda_cons pd_int (pda_cons (pd_cb call_len sim_len rfl G.len (by decide +kernel) (pda_cons (pdv 0) pda_nil)) pda_nil))) pda_nil) (pdg_name (i := 2) sc.nd) (pdss_one (pds_set (i := 1) sc.nd (pd_mod (pd_cty call_intU sim_int rfl G.int (by decide +kernel) (pda_cons (pd_add (pd_add (pd_add (pd_mul (pdv 1) pd_int) (pd_mod (pd_cty call_intU sim_int rfl G.int (by decide +kernel) (pda_cons (pd_ix (pdv 0) (pdv 2)) pda_nil)) pd_int)) (pd_mul pd_int (pdv 2))) pd_int) pda_nil)) pd_int))))
      (pdss_one (pds_ret (pd_lst (pda_cons (pd_lcR (j := 2) rfl sc.nd G.range (pda_cons (pd_cb (call_min2 rfl) sim_I2C rfl G.min (by decide +kernel) (pda_cons pd_int (pda_cons (pd_cb call_len sim_len rfl G.len (by decide +kernel) (pda_cons (pdv 0) pda_nil)) pda_nil))) pda_nil) (show blkC ["script", "mixed", "at"] (defScope s__law_bag) _ _ = true by decide +kernel) (fun _ _ _ _ _ => pdts_nil) (fun _ _ _ _ _ => (pd_cty call_intU sim_int rfl G.int (by decide +kernel) (pda_cons (pd_ix (pdv 0) (pdv 2)) pda_nil))) (hg := fun _ _ _ _ _ => pg_name (i := 2) sc.nd rfl (Or.inl rfl))) (pda_cons pd_int (pda_cons pd_int (pda_cons pd_int (pda_cons (pdv 1) (pda_cons pd_int pda_nil)))))))))))
abbrev s__law_draw : Stmt := topS 28
theorem sc__law_draw : FnScope ["bag", "many", "cell", "digit"] ["bag", "many"] (defScope s__law_draw) := ⟨rfl, rfl, rfl, by decide +kernel, rfl, by decide +kernel, by decide +kernel⟩
theorem ok__law_draw {P : Program} {w : World} {K : PySem.W.Frag} {mg : Str → Option Value} {base : Heap} {f : Addr} {fd : FuncData} (F : FunD K "_law_draw" "_law_draw" (defArgs s__law_draw) (defBody s__law_draw) (defScope s__law_draw) [] [] f fd) (m : mg "_law_draw" = some (.ref f)) (G : Glb mg) (C : Cst mg) : Cal P w K mg base "_law_draw" 1 sp__law_draw f := by
  have sc := sc__law_draw
  refine ⟨fnL_mk (N := ["bag", "many", "cell", "digit"]) (ps := ["bag", "many"]) F (fun _ _ _ _ _ _ us hl => match us, hl with | [_, _], _ => rfl) sc__law_draw len__law_draw fun cdv A outer s H E ds L Q E' hr h => ⟨d__law_draw, ?der, rd__law_draw ds L Q E' h⟩, m, F.kp⟩
  case der =>
    exact (pdss_cons (pds_asg (pd_add (pd_ix (pdv 0) pd_int) pd_int) (pdg_sub (pdv 0) pd_int))
      (pdss_cons (pds_if (PDW.pt (pdw_and (pdt_eq hr.units (pd_ix (pdv 0) pd_int) pd_int) (pdw_and1 (pdt_lt (pd_ix (pdv 0) pd_int) (pd_cb call_len sim_len rfl G.len (by decide +kernel) (pda_cons (pd_ix (pdv 0) pd_int) pda_nil))))))
      (pdss_cons (pds_set (i := 2) sc.nd (pd_ix (pd_ix (pdv 0) pd_int) (pd_ix (pdv 0) pd_int)))
      (pdss_cons (pds_asg (pd_add (pd_ix (pdv 0) pd_int) pd_int) (pdg_sub (pdv 0) pd_int))
      (pdss_one (pds_if (pdt_ge (pdv 2) (pd_pow pd_int pd_int))
      (pdss_cons (pds_asg (pdv 2) (pdg_sub (pdv 0) pd_int))
      (pdss_one (pds_asg pd_int (pdg_sub (pdv 0) pd_int))))
      (pdss_one (pds_asg (pd_mod (pd_cty call_intU sim_int rfl G.int (by decide +kernel) (pda_cons (pd_add (pd_add (pd_mul (pd_ix (pdv 0) pd_int) pd_int) (pd_mod (pd_cty call_intU sim_int rfl G.int (by decide +kernel) (pda_cons (pdv 2) pda_nil)) pd_int)) pd_int) pda_nil)) pd_int) (pdg_sub (pdv 0) pd_int)))))))
      pdss_nil)
      (pdss_cons (pds_if (pdt_gt (pd_ix (pdv 0) pd_int) pd_int)
      (pdss_cons (pds_set (i := 3) sc.nd (pd_mod (pd_cty call_intU sim_int rfl G.int (by decide +kernel) (pda_cons (pd_ix (pdv 0) pd_int) pda_nil)) (pdv 1)))
      (pdss_cons (pds_asg (pd_sub (pd_ix (pdv 0) pd_int) pd_int) (pdg_sub (pdv 0) pd_int))
      (pdss_cons (pds_asg (pd_if (pdt_gt (pd_ix (pdv 0) pd_int) pd_int) (pd_div (pd_ix (pdv 0) pd_int) (pdv 1)) pd_int) (pdg_sub (pdv 0) pd_int))
      (pdss_one (pds_ret (pdv 3))))))
      pdss_nil)
      (pdss_cons (pds_asg (pd_mod (pd_cty call_intU sim_int rfl G.int (by decide +kernel) (pda_cons (pd_add (pd_add (pd_pow (pd_ix (pdv 0) pd_int) pd_int) (pd_mul (pd_ix (pdv 0) pd_int) pd_int)) pd_int) pda_nil)) pd_int) (pdg_sub (pdv 0) pd_int))
      (pdss_one (pds_ret (pd_mod (pd_cty call_intU sim_int rfl G.int (by decide +kernel) (pda_cons (pd_add (pd_div (pd_ix (pdv 0) pd_int) pd_int) (pd_mul (pd_mod (pd_cty call_intU sim_int rfl G.int (by decide +kernel) (pda_cons (pd_ix (pdv 0) pd_int) pda_nil)) pd_int) pd_int)) pda_nil)) (pdv 1))))))))
abbrev s__law_of : Stmt := topS 29
theorem sc__law_of : FnScope ["bag", "things"] ["bag", "things"] (defScope s__law_of) := ⟨rfl, rfl, rfl, by decide +kernel, rfl, by decide +kernel, by decide +kernel⟩
theorem ok__law_of {P : Program} {w : World} {K : PySem.W.Frag} {mg : Str → Option Value} {base : Heap} {f : Addr} {fd : FuncData} {f__law_draw : Addr} (F : FunD K "_law_of" "_law_of" (defArgs s__law_of) (defBody s__law_of) (defScope s__law_of) [] [] f fd) (m : mg "_law_of" = some (.ref f)) (G : Glb mg) (C : Cst mg) (c__law_draw : Cal P w K mg base "_law_draw" 1 sp__law_draw f__law_draw) : Cal P w K mg base "_law_of" 2 sp__law_of f := by
  have sc := sc__law_of
  refine ⟨fnL_mk (N := ["bag", "things"]) (ps := ["bag", "things"]) F (fun _ _ _ _ _ _ us hl => match us, hl with | [_, _], _ => rfl) sc__law_of len__law_of fun cdv A outer s H E ds L Q E' hr h => ⟨d__law_of, ?der, rd__law_of ds L Q E' h⟩, m, F.kp⟩
  case der =>
    exact (pdss_one (pds_ret (pd_ix (pdv 1) (pd_call (c__law_draw.F.mono (by decide)) hr c__law_draw.kp c__law_draw.m pass0 xrel0 (pda_cons (pdv 0) (pda_cons (pd_cb call_len sim_len rfl G.len (by decide +kernel) (pda_cons (pdv 1) pda_nil)) pda_nil))))))
abbrev s__law_mixed : Stmt := topS 30
theorem sc__law_mixed : FnScope ["bag", "things", "left", "found", "turn"] ["bag", "things"] (defScope s__law_mixed) := ⟨rfl, rfl, rfl, by decide +kernel, rfl, by decide +kernel, by decide +kernel⟩
theorem ok__law_mixed {P : Program} {w : World} {K : PySem.W.Frag} {mg : Str → Option Value} {base : Heap} {f : Addr} {fd : FuncData} {f__law_draw : Addr} (F : FunD K "_law_mixed" "_law_mixed" (defArgs s__law_mixed) (defBody s__law_mixed) (defScope s__law_mixed) [] [] f fd) (m : mg "_law_mixed" = some (.ref f)) (G : Glb mg) (C : Cst mg) (c__law_draw : Cal P w K mg base "_law_draw" 1 sp__law_draw f__law_draw) : Cal P w K mg base "_law_mixed" 2 sp__law_mixed f := by
  have sc := sc__law_mixed
  refine ⟨fnL_mk (N := ["bag", "things", "left", "found", "turn"]) (ps := ["bag", "things"]) F (fun _ _ _ _ _ _ us hl => match us, hl with | [_, _], _ => rfl) sc__law_mixed len__law_mixed fun cdv A outer s H E ds L Q E' hr h => ⟨d__law_mixed, ?der, rd__law_mixed ds L Q E' h⟩, m, F.kp⟩
  case der =>
    exact (pdss_cons (pds_set (i := 2) sc.nd (pd_cty call_list_of sim_list rfl G.list (by decide +kernel) (pda_cons (pdv 1) pda_nil)))
      (pdss_cons (pds_set (i := 3) sc.nd (pd_lst pda_nil))
      (pdss_cons (pds_forR PassesOwn.never rfl G.range (pda_cons (pd_cb call_len sim_len rfl G.len (by decide +kernel) (pda_cons (pdv 1) pda_nil)) pda_nil) (pdg_name (i := 4) sc.nd) (pdss_one (pds_expr (pd_append (pdv 3) (pda_cons (pd_popAt (pdv 2) (pda_cons (pd_call (c__law_draw.F.mono (by decide)) hr c__law_draw.kp c__law_draw.m pass0 xrel0 (pda_cons (pdv 0) (pda_cons (pd_cb call_len sim_len rfl G.len (by decide +kernel) (pda_cons (pdv 2) pda_nil)) pda_nil))) pda_nil)) pda_nil)))))
      (pdss_one (pds_ret (pdv 3))))))
abbrev s__law_gcd : Stmt := topS 32
theorem sc__law_gcd : FnScope ["one", "other"] ["one", "other"] (defScope s__law_gcd) := ⟨rfl, rfl, rfl, by decide +kernel, rfl, by decide +kernel, by decide +kernel⟩
theorem ok__law_gcd {P : Program} {w : World} {K : PySem.W.Frag} {mg : Str → Option Value} {base : Heap} {f : Addr} {fd : FuncData} (F : FunD K "_law_gcd" "_law_gcd" (defArgs s__law_gcd) (defBody s__law_gcd) (defScope s__law_gcd) [] [] f fd) (m : mg "_law_gcd" = some (.ref f)) (G : Glb mg) (C : Cst mg) : Cal P w K mg base "_law_gcd" 1 sp__law_gcd f := by
  have sc := sc__law_gcd
  refine ⟨fnL_mk (N := ["one", "other"]) (ps := ["one", "other"]) F (fun _ _ _ _ _ _ us hl => match us, hl with | [_, _], _ => rfl) sc__law_gcd len__law_gcd fun cdv A outer s H E ds L Q E' hr h => ⟨d__law_gcd, ?der, rd__law_gcd ds L Q E' h⟩, m, F.kp⟩
  case der =>
    exact (pdss_cons (pds_while PassesOwn.never (pdt_ne hr.units (pdv 1) pd_int) (pdss_one (pds_par (i := 0) (j := 1) rfl sc.nd (pda_cons (pdv 1) (pda_cons (pd_mod (pd_cty call_intU sim_int rfl G.int (by decide +kernel) (pda_cons (pdv 0) pda_nil)) (pdv 1)) pda_nil)))))
      (pdss_one (pds_ret (pdv 0))))
abbrev s__law_pair : Stmt := topS 33
theorem sc__law_pair : FnScope ["top", "low", "by"] ["top", "low"] (defScope s__law_pair) := ⟨rfl, rfl, rfl, by decide +kernel, rfl, by decide +kernel, by decide +kernel⟩
theorem ok__law_pair {P : Program} {w : World} {K : PySem.W.Frag} {mg : Str → Option Value} {base : Heap} {f : Addr} {fd : FuncData} {f__law_gcd : Addr} (F : FunD K "_law_pair" "_law_pair" (defArgs s__law_pair) (defBody s__law_pair) (defScope s__law_pair) [] [] f fd) (m : mg "_law_pair" = some (.ref f)) (G : Glb mg) (C : Cst mg) (c__law_gcd : Cal P w K mg base "_law_gcd" 1 sp__law_gcd f__law_gcd) : Cal P w K mg base "_law_pair" 2 sp__law_pair f := by
  have sc := sc__law_pair
  refine ⟨fnL_mk (N := ["top", "low", "by"]) (ps := ["top", "low"]) F (fun _ _ _ _ _ _ us hl => match us, hl with | [_, _], _ => rfl) sc__law_pair len__law_pair fun cdv A outer s H E ds L Q E' hr h => ⟨d__law_pair, ?der, rd__law_pair ds L Q E' h⟩, m, F.kp⟩
  case der =>
    exact (pdss_cons (pds_set (i := 2) sc.nd (pd_call (c__law_gcd.F.mono (by decide)) hr c__law_gcd.kp c__law_gcd.m pass0 xrel0 (pda_cons (pdv 0) (pda_cons (pdv 1) pda_nil))))
      (pdss_one (pds_ret (pd_tup (pda_cons (pd_div (pdv 0) (pdv 2)) (pda_cons (pd_div (pdv 1) (pdv 2)) pda_nil))))))
abbrev s__law_add : Stmt := topS 34
theorem sc__law_add : FnScope ["one", "other"] ["one", "other"] (defScope s__law_add) := ⟨rfl, rfl, rfl, by decide +kernel, rfl, by decide +kernel, by decide +kernel⟩
theorem ok__law_add {P : Program} {w : World} {K : PySem.W.Frag} {mg : Str → Option Value} {base : Heap} {f : Addr} {fd : FuncData} {f__law_pair : Addr} (F : FunD K "_law_add" "_law_add" (defArgs s__law_add) (defBody s__law_add) (defScope s__law_add) [] [] f fd) (m : mg "_law_add" = some (.ref f)) (G : Glb mg) (C : Cst mg) (c__law_pair : Cal P w K mg base "_law_pair" 2 sp__law_pair f__law_pair) : Cal P w K mg base "_law_add" 3 sp__law_add f := by
  have sc := sc__law_add
  refine ⟨fnL_mk (N := ["one", "other"]) (ps := ["one", "other"]) F (fun _ _ _ _ _ _ us hl => match us, hl with | [_, _], _ => rfl) sc__law_add len__law_add fun cdv A outer s H E ds L Q E' hr h => ⟨d__law_add, ?der, rd__law_add ds L Q E' h⟩, m, F.kp⟩
  case der =>
    exact (pdss_one (pds_ret (pd_call (c__law_pair.F.mono (by decide)) hr c__law_pair.kp c__law_pair.m pass0 xrel0 (pda_cons (pd_add (pd_mul (pd_ix (pdv 0) pd_int) (pd_ix (pdv 1) pd_int)) (pd_mul (pd_ix (pdv 1) pd_int) (pd_ix (pdv 0) pd_int))) (pda_cons (pd_mul (pd_ix (pdv 0) pd_int) (pd_ix (pdv 1) pd_int)) pda_nil)))))
abbrev s__law_mul : Stmt := topS 35
theorem sc__law_mul : FnScope ["one", "other"] ["one", "other"] (defScope s__law_mul) := ⟨rfl, rfl, rfl, by decide +kernel, rfl, by decide +kernel, by decide +kernel⟩
theorem ok__law_mul {P : Program} {w : World} {K : PySem.W.Frag} {mg : Str → Option Value} {base : Heap} {f : Addr} {fd : FuncData} {f__law_pair : Addr} (F : FunD K "_law_mul" "_law_mul" (defArgs s__law_mul) (defBody s__law_mul) (defScope s__law_mul) [] [] f fd) (m : mg "_law_mul" = some (.ref f)) (G : Glb mg) (C : Cst mg) (c__law_pair : Cal P w K mg base "_law_pair" 2 sp__law_pair f__law_pair) : Cal P w K mg base "_law_mul" 3 sp__law_mul f := by
  have sc := sc__law_mul
  refine ⟨fnL_mk (N := ["one", "other"]) (ps := ["one", "other"]) F (fun _ _ _ _ _ _ us hl => match us, hl with | [_, _], _ => rfl) sc__law_mul len__law_mul fun cdv A outer s H E ds L Q E' hr h => ⟨d__law_mul, ?der, rd__law_mul ds L Q E' h⟩, m, F.kp⟩
  case der =>
    exact (pdss_one (pds_ret (pd_call (c__law_pair.F.mono (by decide)) hr c__law_pair.kp c__law_pair.m pass0 xrel0 (pda_cons (pd_mul (pd_ix (pdv 0) pd_int) (pd_ix (pdv 1) pd_int)) (pda_cons (pd_mul (pd_ix (pdv 0) pd_int) (pd_ix (pdv 1) pd_int)) pda_nil)))))
abbrev s__law_less : Stmt := topS 36
theorem sc__law_less : FnScope ["one", "other"] ["one", "other"] (defScope s__law_less) := ⟨rfl, rfl, rfl, by decide +kernel, rfl, by decide +kernel, by decide +kernel⟩
theorem ok__law_less {P : Program} {w : World} {K : PySem.W.Frag} {mg : Str → Option Value} {base : Heap} {f : Addr} {fd : FuncData} (F : FunD K "_law_less" "_law_less" (defArgs s__law_less) (defBody s__law_less) (defScope s__law_less) [] [] f fd) (m : mg "_law_less" = some (.ref f)) (G : Glb mg) (C : Cst mg) : Cal P w K mg base "_law_less" 1 sp__law_less f := by
  have sc := sc__law_less
  refine ⟨fnL_mk (N := ["one", "other"]) (ps := ["one", "other"]) F (fun _ _ _ _ _ _ us hl => match us, hl with | [_, _], _ => rfl) sc__law_less len__law_less fun cdv A outer s H E ds L Q E' hr h => ⟨d__law_less, ?der, rd__law_less ds L Q E' h⟩, m, F.kp⟩
  case der =>
    exact (pdss_one (pds_ret (pd_lt (pd_mul (pd_ix (pdv 0) pd_int) (pd_ix (pdv 1) pd_int)) (pd_mul (pd_ix (pdv 1) pd_int) (pd_ix (pdv 0) pd_int)))))
abbrev s__law_total : Stmt := topS 37
theorem sc__law_total : FnScope ["things", "found", "one"] ["things"] (defScope s__law_total) := ⟨rfl, rfl, rfl, by decide +kernel, rfl, by decide +kernel, by decide +kernel⟩
theorem ok__law_total {P : Program} {w : World} {K : PySem.W.Frag} {mg : Str → Option Value} {base : Heap} {f : Addr} {fd : FuncData} {f__law_add : Addr} (F : FunD K "_law_total" "_law_total" (defArgs s__law_total) (defBody s__law_total) (defScope s__law_total) [] [] f fd) (m : mg "_law_total" = some (.ref f)) (G : Glb mg) (C : Cst mg) (c__law_add : Cal P w K mg base "_law_add" 3 sp__law_add f__law_add) : Cal P w K mg base "_law_total" 4 sp__law_total f := by
  have sc := sc__law_total
  refine ⟨fnL_mk (N := ["things", "found", "one"]) (ps := ["things"]) F (fun _ _ _ _ _ _ us hl => match us, hl with | [_], _ => rfl) sc__law_total len__law_total fun cdv A outer s H E ds L Q E' hr h => ⟨d__law_total, ?der, rd__law_total ds L Q E' h⟩, m, F.kp⟩
  case der =>
    exact (pdss_cons (pds_set (i := 1) sc.nd (pd_tup (pda_cons pd_int (pda_cons pd_int pda_nil))))
      (pdss_cons (pds_forL PassesOwn.never rfl (pdv 0) (pdg_name (i := 2) sc.nd) (pdss_one (pds_set (i := 1) sc.nd (pd_call (c__law_add.F.mono (by decide)) hr c__law_add.kp c__law_add.m pass0 xrel0 (pda_cons (pdv 1) (pda_cons (pdv 2) pda_nil))))))
      (pdss_one (pds_ret (pdv 1)))))
abbrev s__law_word : Stmt := topS 38
theorem sc__law_word : FnScope ["one"] ["one"] (defScope s__law_word) := ⟨rfl, rfl, rfl, by decide +kernel, rfl, by decide +kernel, by decide +kernel⟩
theorem ok__law_word {P : Program} {w : World} {K : PySem.W.Frag} {mg : Str → Option Value} {base : Heap} {f : Addr} {fd : FuncData} (F : FunD K "_law_word" "_law_word" (defArgs s__law_word) (defBody s__law_word) (defScope s__law_word) [] [] f fd) (m : mg "_law_word" = some (.ref f)) (G : Glb mg) (C : Cst mg) : Cal P w K mg base "_law_word" 1 sp__law_word f := by
  have sc := sc__law_word
  refine ⟨fnL_mk (N := ["one"]) (ps := ["one"]) F (fun _ _ _ _ _ _ us hl => match us, hl with | [_], _ => rfl) sc__law_word len__law_word fun cdv A outer s H E ds L Q E' hr h => ⟨d__law_word, ?der, rd__law_word ds L Q E' h⟩, m, F.kp⟩
  case der =>
    exact (pdss_one (pds_ret (pd_if (pdt_eq hr.units (pd_ix (pdv 0) pd_int) pd_int) (pd_cty call_str_int sim_str rfl G.str (by decide +kernel) (pda_cons (pd_ix (pdv 0) pd_int) pda_nil)) (pd_add (pd_add (pd_cty call_str_int sim_str rfl G.str (by decide +kernel) (pda_cons (pd_ix (pdv 0) pd_int) pda_nil)) pd_str) (pd_cty call_str_int sim_str rfl G.str (by decide +kernel) (pda_cons (pd_ix (pdv 0) pd_int) pda_nil))))))
abbrev s__law_odd_word : Stmt := topS 39
theorem sc__law_odd_word : FnScope ["bag", "one", "by"] ["bag", "one"] (defScope s__law_odd_word) := ⟨rfl, rfl, rfl, by decide +kernel, rfl, by decide +kernel, by decide +kernel⟩
theorem ok__law_odd_word {P : Program} {w : World} {K : PySem.W.Frag} {mg : Str → Option Value} {base : Heap} {f : Addr} {fd : FuncData} {f__law_of f__law_word : Addr} (F : FunD K "_law_odd_word" "_law_odd_word" (defArgs s__law_odd_word) (defBody s__law_odd_word) (defScope s__law_odd_word) [] [] f fd) (m : mg "_law_odd_word" = some (.ref f)) (G : Glb mg) (C : Cst mg) (c__law_of : Cal P w K mg base "_law_of" 2 sp__law_of f__law_of) (c__law_word : Cal P w K mg base "_law_word" 1 sp__law_word f__law_word) : Cal P w K mg base "_law_odd_word" 3 sp__law_odd_word f := by
  have sc := sc__law_odd_word
  refine ⟨fnL_mk (N := ["bag", "one", "by"]) (ps := ["bag", "one"]) F (fun _ _ _ _ _ _ us hl => match us, hl with | [_, _], _ => rfl) sc__law_odd_word len__law_odd_word fun cdv A outer s H E ds L Q E' hr h => ⟨d__law_odd_word, ?der, rd__law_odd_word ds L Q E' h⟩, m, F.kp⟩
  case der =>
    exact (pdss_cons (pds_set (i := 2) sc.nd (pd_call (c__law_of.F.mono (by decide)) hr c__law_of.kp c__law_of.m pass0 xrel0 (pda_cons (pdv 0) (pda_cons (pd_lst (pda_cons pd_int (pda_cons pd_int (pda_cons pd_int (pda_cons pd_int (pda_cons pd_int (pda_cons pd_int pda_nil))))))) pda_nil))))
      (pdss_cons (pds_if (pdt_eq hr.units (pdv 2) pd_int)
      (pdss_one (pds_ret (pd_call (c__law_word.F.mono (by decide)) hr c__law_word.kp c__law_word.m pass0 xrel0 (pda_cons (pdv 1) pda_nil))))
      pdss_nil)
      (pdss_one (pds_ret (pd_add (pd_add (pd_cty call_str_int sim_str rfl G.str (by decide +kernel) (pda_cons (pd_mul (pd_ix (pdv 1) pd_int) (pdv 2)) pda_nil)) pd_str) (pd_cty call_str_int sim_str rfl G.str (by decide +kernel) (pda_cons (pd_mul (pd_ix (pdv 1) pd_int) (pdv 2)) pda_nil)))))))
abbrev s__law_things : Stmt := topS 40
theorem sc__law_things : FnScope ["bag", "top", "low", "by", "found", "turn", "way", "near"] ["bag"] (defScope s__law_things) := ⟨rfl, rfl, rfl, by decide +kernel, rfl, by decide +kernel, by decide +kernel⟩
theorem ok__law_things {P : Program} {w : World} {K : PySem.W.Frag} {mg : Str → Option Value} {base : Heap} {f : Addr} {fd : FuncData} {f__law_draw f__law_pair f__law_of f__law_mixed : Addr} (F : FunD K "_law_things" "_law_things" (defArgs s__law_things) (defBody s__law_things) (defScope s__law_things) [] [] f fd) (m : mg "_law_things" = some (.ref f)) (G : Glb mg) (C : Cst mg) (c__law_draw : Cal P w K mg base "_law_draw" 1 sp__law_draw f__law_draw) (c__law_pair : Cal P w K mg base "_law_pair" 2 sp__law_pair f__law_pair) (c__law_of : Cal P w K mg base "_law_of" 2 sp__law_of f__law_of) (c__law_mixed : Cal P w K mg base "_law_mixed" 2 sp__law_mixed f__law_mixed) : Cal P w K mg base "_law_things" 3 sp__law_things f := by
  have sc := sc__law_things
  refine ⟨fnL_mk (N := ["bag", "top", "low", "by", "found", "turn", "way", "near"]) (ps := ["bag"]) F (fun _ _ _ _ _ _ us hl => match us, hl with | [_], _ => rfl) sc__law_things len__law_things fun cdv A outer s H E ds L Q E' hr h => ⟨d__law_things, ?der, rd__law_things ds L Q E' h⟩, m, F.kp⟩
  case der =>
    exact (pdss_cons (pds_par (i := 1) (j := 2) rfl sc.nd (pda_cons (pd_call (c__law_draw.F.mono (by decide)) hr c__law_draw.kp c__law_draw.m pass0 xrel0 (pda_cons (pdv 0) (pda_cons pd_int pda_nil))) (pda_cons (pd_add pd_int (pd_call (c__law_draw.F.mono (by decide)) hr c__law_draw.kp c__law_draw.m pass0 xrel0 (pda_cons (pdv 0) (pda_cons pd_int pda_nil)))) pda_nil)))
      (pdss_cons (pds_if (pdt_eq hr.units (pd_call (c__law_draw.F.mono (by decide)) hr c__law_draw.kp c__law_draw.m pass0 xrel0 (pda_cons (pdv 0) (pda_cons pd_int pda_nil))) pd_int)
      (pdss_one (pds_par (i := 1) (j := 2) rfl sc.nd (pda_cons (pd_call (c__law_draw.F.mono (by decide)) hr c__law_draw.kp c__law_draw.m pass0 xrel0 (pda_cons (pdv 0) (pda_cons (pd_pow pd_int pd_int) pda_nil))) (pda_cons (pd_add pd_int (pd_call (c__law_draw.F.mono (by decide)) hr c__law_draw.kp c__law_draw.m pass0 xrel0 (pda_cons (pdv 0) (pda_cons (pd_pow pd_int pd_int) pda_nil)))) pda_nil))))
      pdss_nil)
      (pdss_cons (pds_set (i := 3) sc.nd (pd_add pd_int (pd_call (c__law_draw.F.mono (by decide)) hr c__law_draw.kp c__law_draw.m pass0 xrel0 (pda_cons (pdv 0) (pda_cons pd_int pda_nil)))))
      (pdss_cons (pds_set (i := 4) sc.nd (pd_lst (pda_cons (pd_call (c__law_pair.F.mono (by decide)) hr c__law_pair.kp c__law_pair.m pass0 xrel0 (pda_cons (pdv 1) (pda_cons (pdv 2) pda_nil))) (pda_cons (pd_call (c__law_pair.F.mono (by decide)) hr c__law_pair.kp c__law_pair.m pass0 xrel0 (pda_cons (pd_add (pd_mul (pdv 1) (pdv 3)) pd_int) (pda_cons (pd_mul (pdv 2) (pdv 3)) pda_nil))) pda_nil))))
      (pdss_cons (pds_forR PassesOwn.never rfl G.range (pda_cons (pd_add pd_int (pd_call (c__law_draw.F.mono (by decide)) hr c__law_draw.kp c__law_draw.m pass0 xrel0 (pda_cons (pdv 0) (pda_cons pd_int pda_nil)))) pda_nil) (pdg_name (i := 5) sc.nd) (pdss_cons (pds_set (i := 6) sc.nd (pd_call (c__law_draw.F.mono (by decide)) hr c__law_draw.kp c__law_draw.m pass0 xrel0 (pda_cons (pdv 0) (pda_cons pd_int pda_nil))))
      (pdss_one (pds_if (pdt_eq hr.units (pdv 6) pd_int)
      (pdss_one (pds_expr (pd_append (pdv 4) (pda_cons (pd_ix (pdv 4) (pd_call (c__law_draw.F.mono (by decide)) hr c__law_draw.kp c__law_draw.m pass0 xrel0 (pda_cons (pdv 0) (pda_cons (pd_cb call_len sim_len rfl G.len (by decide +kernel) (pda_cons (pdv 4) pda_nil)) pda_nil)))) pda_nil))))
      (pdss_one (pds_if (pdt_eq hr.units (pdv 6) pd_int)
      (pdss_one (pds_expr (pd_append (pdv 4) (pda_cons (pd_tup (pda_cons (pd_call (c__law_of.F.mono (by decide)) hr c__law_of.kp c__law_of.m pass0 xrel0 (pda_cons (pdv 0) (pda_cons (pd_lst (pda_cons pd_int (pda_cons pd_int (pda_cons pd_int (pda_cons pd_int (pda_cons (pd_pow pd_int pd_int) pda_nil)))))) pda_nil))) (pda_cons pd_int pda_nil))) pda_nil))))
      (pdss_one (pds_if (pdt_eq hr.units (pdv 6) pd_int)
      (pdss_cons (pds_set (i := 7) sc.nd (pd_ix (pdv 4) (pd_call (c__law_draw.F.mono (by decide)) hr c__law_draw.kp c__law_draw.m pass0 xrel0 (pda_cons (pdv 0) (pda_cons (pd_cb call_len sim_len rfl G.len (by decide +kernel) (pda_cons (pdv 4) pda_nil)) pda_nil)))))
      (pdss_one (pds_expr (pd_append (pdv 4) (pda_cons (pd_call (c__law_pair.F.mono (by decide)) hr c__law_pair.kp c__law_pair.m pass0 xrel0 (pda_cons (pd_add (pd_mul (pd_ix (pdv 7) pd_int) pd_int) pd_int) (pda_cons (pd_mul (pd_ix (pdv 7) pd_int) pd_int) pda_nil))) pda_nil)))))
      (pdss_one (pds_if (pdt_eq hr.units (pdv 6) pd_int)
      (pdss_one (pds_expr (pd_append (pdv 4) (pda_cons (pd_call (c__law_pair.F.mono (by decide)) hr c__law_pair.kp c__law_pair.m pass0 xrel0 (pda_cons (pd_call (c__law_draw.F.mono (by decide)) hr c__law_draw.kp c__law_draw.m pass0 xrel0 (pda_cons (pdv 0) (pda_cons (pd_pow pd_int pd_int) pda_nil))) (pda_cons (pd_add pd_int (pd_call (c__law_draw.F.mono (by decide)) hr c__law_draw.kp c__law_draw.m pass0 xrel0 (pda_cons (pdv 0) (pda_cons (pd_pow pd_int pd_int) pda_nil)))) pda_nil))) pda_nil))))
      (pdss_one (pds_expr (pd_append (pdv 4) (pda_cons (pd_call (c__law_pair.F.mono (by decide)) hr c__law_pair.kp c__law_pair.m pass0 xrel0 (pda_cons (pd_call (c__law_draw.F.mono (by decide)) hr c__law_draw.kp c__law_draw.m pass0 xrel0 (pda_cons (pdv 0) (pda_cons pd_int pda_nil))) (pda_cons (pd_add pd_int (pd_call (c__law_draw.F.mono (by decide)) hr c__law_draw.kp c__law_draw.m pass0 xrel0 (pda_cons (pdv 0) (pda_cons pd_int pda_nil)))) pda_nil))) pda_nil))))))))))))))
      (pdss_one (pds_ret (pd_call (c__law_mixed.F.mono (by decide)) hr c__law_mixed.kp c__law_mixed.m pass0 xrel0 (pda_cons (pdv 0) (pda_cons (pd_add (pdv 4) (pd_lst (pda_cons (pd_call (c__law_of.F.mono (by decide)) hr c__law_of.kp c__law_of.m pass0 xrel0 (pda_cons (pdv 0) (pda_cons (pd_lst (pda_cons (pd_tup (pda_cons pd_int (pda_cons pd_int pda_nil))) (pda_cons (pd_tup (pda_cons pd_int (pda_cons pd_int pda_nil))) (pda_cons (pd_tup (pda_cons pd_int (pda_cons pd_int pda_nil))) pda_nil)))) pda_nil))) pda_nil))) pda_nil))))))))))
abbrev s__law_raw : Stmt := topS 41
theorem sc__law_raw : FnScope ["bag", "one", "by"] ["bag", "one"] (defScope s__law_raw) := ⟨rfl, rfl, rfl, by decide +kernel, rfl, by decide +kernel, by decide +kernel⟩
theorem ok__law_raw {P : Program} {w : World} {K : PySem.W.Frag} {mg : Str → Option Value} {base : Heap} {f : Addr} {fd : FuncData} {f__law_draw f__law_of : Addr} (F : FunD K "_law_raw" "_law_raw" (defArgs s__law_raw) (defBody s__law_raw) (defScope s__law_raw) [] [] f fd) (m : mg "_law_raw" = some (.ref f)) (G : Glb mg) (C : Cst mg) (c__law_draw : Cal P w K mg base "_law_draw" 1 sp__law_draw f__law_draw) (c__law_of : Cal P w K mg base "_law_of" 2 sp__law_of f__law_of) : Cal P w K mg base "_law_raw" 3 sp__law_raw f := by
  have sc := sc__law_raw
  refine ⟨fnL_mk (N := ["bag", "one", "by"]) (ps := ["bag", "one"]) F (fun _ _ _ _ _ _ us hl => match us, hl with | [_, _], _ => rfl) sc__law_raw len__law_raw fun cdv A outer s H E ds L Q E' hr h => ⟨d__law_raw, ?der, rd__law_raw ds L Q E' h⟩, m, F.kp⟩
  case der =>
    exact (pdss_cons (pds_if (PDW.pt (pdw_and (pdt_eq hr.units (pd_ix (pdv 1) pd_int) pd_int) (pdw_and1 (pdt_eq hr.units (pd_call (c__law_draw.F.mono (by decide)) hr c__law_draw.kp c__law_draw.m pass0 xrel0 (pda_cons (pdv 0) (pda_cons pd_int pda_nil))) pd_int))))
      (pdss_one (pds_ret (pd_ix (pdv 1) pd_int)))
      pdss_nil)
      (pdss_cons (pds_set (i := 2) sc.nd (pd_call (c__law_of.F.mono (by decide)) hr c__law_of.kp c__law_of.m pass0 xrel0 (pda_cons (pdv 0) (pda_cons (pd_lst (pda_cons pd_int (pda_cons pd_int (pda_cons pd_int (pda_cons pd_int (pda_cons pd_int (pda_cons (pd_pow pd_int pd_int) pda_nil))))))) pda_nil))))
      (pdss_one (pds_ret (pd_tup (pda_cons (pd_mul (pd_ix (pdv 1) pd_int) (pdv 2)) (pda_cons (pd_mul (pd_ix (pdv 1) pd_int) (pdv 2)) pda_nil)))))))
abbrev s__law_apart : Stmt := topS 42
theorem sc__law_apart : FnScope ["one", "other"] ["one", "other"] (defScope s__law_apart) := ⟨rfl, rfl, rfl, by decide +kernel, rfl, by decide +kernel, by decide +kernel⟩
theorem ok__law_apart {P : Program} {w : World} {K : PySem.W.Frag} {mg : Str → Option Value} {base : Heap} {f : Addr} {fd : FuncData} {f__law_less f__law_pair : Addr} (F : FunD K "_law_apart" "_law_apart" (defArgs s__law_apart) (defBody s__law_apart) (defScope s__law_apart) [] [] f fd) (m : mg "_law_apart" = some (.ref f)) (G : Glb mg) (C : Cst mg) (c__law_less : Cal P w K mg base "_law_less" 1 sp__law_less f__law_less) (c__law_pair : Cal P w K mg base "_law_pair" 2 sp__law_pair f__law_pair) : Cal P w K mg base "_law_apart" 3 sp__law_apart f := by
  have sc := sc__law_apart
  refine ⟨fnL_mk (N := ["one", "other"]) (ps := ["one", "other"]) F (fun _ _ _ _ _ _ us hl => match us, hl with | [_, _], _ => rfl) sc__law_apart len__law_apart fun cdv A outer s H E ds L Q E' hr h => ⟨d__law_apart, ?der, rd__law_apart ds L Q E' h⟩, m, F.kp⟩
  case der =>
    exact (pdss_cons (pds_if (pdt_val (pd_call (c__law_less.F.mono (by decide)) hr c__law_less.kp c__law_less.m pass0 xrel0 (pda_cons (pdv 0) (pda_cons (pdv 1) pda_nil))))
      (pdss_one (pds_par (i := 0) (j := 1) rfl sc.nd (pda_cons (pdv 1) (pda_cons (pdv 0) pda_nil))))
      pdss_nil)
      (pdss_one (pds_ret (pd_call (c__law_pair.F.mono (by decide)) hr c__law_pair.kp c__law_pair.m pass0 xrel0 (pda_cons (pd_sub (pd_mul (pd_ix (pdv 0) pd_int) (pd_ix (pdv 1) pd_int)) (pd_mul (pd_ix (pdv 1) pd_int) (pd_ix (pdv 0) pd_int))) (pda_cons (pd_mul (pd_ix (pdv 0) pd_int) (pd_ix (pdv 1) pd_int)) pda_nil))))))
abbrev s__law_plus : Stmt := topS 43
theorem sc__law_plus : FnScope ["raws"] ["raws"] (defScope s__law_plus) := ⟨rfl, rfl, rfl, by decide +kernel, rfl, by decide +kernel, by decide +kernel⟩
theorem ok__law_plus {P : Program} {w : World} {K : PySem.W.Frag} {mg : Str → Option Value} {base : Heap} {f : Addr} {fd : FuncData} {f_plus : Addr} (F : FunD K "_law_plus" "_law_plus" (defArgs s__law_plus) (defBody s__law_plus) (defScope s__law_plus) [] [] f fd) (m : mg "_law_plus" = some (.ref f)) (G : Glb mg) (C : Cst mg) (c_plus : Cal P w K mg base "plus" 4 sp_plus f_plus) : Cal P w K mg base "_law_plus" 5 sp__law_plus f := by
  have sc := sc__law_plus
  refine ⟨fnL_mk (N := ["raws"]) (ps := ["raws"]) F (fun _ _ _ _ _ _ us hl => match us, hl with | [_], _ => rfl) sc__law_plus len__law_plus fun cdv A outer s H E ds L Q E' hr h => ⟨d__law_plus, ?der, rd__law_plus ds L Q E' h⟩, m, F.kp⟩
  case der =>
    exact (pdss_cons (pds_if (pdt_lt (pd_cb call_len sim_len rfl G.len (by decide +kernel) (pda_cons (pdv 0) pda_nil)) pd_int)
      (pdss_one (pds_ret (pd_if (pdt_eq hr.units (pdv 0) (pd_lst pda_nil)) (pd_call0 (c_plus.F.mono (by decide)) hr c_plus.kp c_plus.m pass0 xrel0) (pd_call (c_plus.F.mono (by decide)) hr c_plus.kp c_plus.m pass0 xrel0 (pda_cons (pd_ix (pdv 0) pd_int) pda_nil)))))
      pdss_nil)
      (pdss_cons (pds_if (pdt_eq hr.units (pd_cb call_len sim_len rfl G.len (by decide +kernel) (pda_cons (pdv 0) pda_nil)) pd_int)
      (pdss_one (pds_ret (pd_call (c_plus.F.mono (by decide)) hr c_plus.kp c_plus.m pass0 xrel0 (pda_cons (pd_ix (pdv 0) pd_int) (pda_cons (pd_ix (pdv 0) pd_int) pda_nil)))))
      pdss_nil)
      (pdss_cons (pds_if (pdt_eq hr.units (pd_cb call_len sim_len rfl G.len (by decide +kernel) (pda_cons (pdv 0) pda_nil)) pd_int)
      (pdss_one (pds_ret (pd_call (c_plus.F.mono (by decide)) hr c_plus.kp c_plus.m pass0 xrel0 (pda_cons (pd_ix (pdv 0) pd_int) (pda_cons (pd_ix (pdv 0) pd_int) (pda_cons (pd_ix (pdv 0) pd_int) pda_nil))))))
      pdss_nil)
      (pdss_cons (pds_if (pdt_eq hr.units (pd_cb call_len sim_len rfl G.len (by decide +kernel) (pda_cons (pdv 0) pda_nil)) pd_int)
      (pdss_one (pds_ret (pd_call (c_plus.F.mono (by decide)) hr c_plus.kp c_plus.m pass0 xrel0 (pda_cons (pd_ix (pdv 0) pd_int) (pda_cons (pd_ix (pdv 0) pd_int) (pda_cons (pd_ix (pdv 0) pd_int) (pda_cons (pd_ix (pdv 0) pd_int) pda_nil)))))))
      pdss_nil)
      (pdss_cons (pds_if (pdt_eq hr.units (pd_cb call_len sim_len rfl G.len (by decide +kernel) (pda_cons (pdv 0) pda_nil)) pd_int)
      (pdss_one (pds_ret (pd_call (c_plus.F.mono (by decide)) hr c_plus.kp c_plus.m pass0 xrel0 (pda_cons (pd_ix (pdv 0) pd_int) (pda_cons (pd_ix (pdv 0) pd_int) (pda_cons (pd_ix (pdv 0) pd_int) (pda_cons (pd_ix (pdv 0) pd_int) (pda_cons (pd_ix (pdv 0) pd_int) pda_nil))))))))
      pdss_nil)
      (pdss_cons (pds_if (pdt_eq hr.units (pd_cb call_len sim_len rfl G.len (by decide +kernel) (pda_cons (pdv 0) pda_nil)) pd_int)
      (pdss_one (pds_ret (pd_call (c_plus.F.mono (by decide)) hr c_plus.kp c_plus.m pass0 xrel0 (pda_cons (pd_ix (pdv 0) pd_int) (pda_cons (pd_ix (pdv 0) pd_int) (pda_cons (pd_ix (pdv 0) pd_int) (pda_cons (pd_ix (pdv 0) pd_int) (pda_cons (pd_ix (pdv 0) pd_int) (pda_cons (pd_ix (pdv 0) pd_int) pda_nil)))))))))
      pdss_nil)
      (pdss_cons (pds_if (pdt_eq hr.units (pd_cb call_len sim_len rfl G.len (by decide +kernel) (pda_cons (pdv 0) pda_nil)) pd_int)
      (pdss_one (pds_ret (pd_call (c_plus.F.mono (by decide)) hr c_plus.kp c_plus.m pass0 xrel0 (pda_cons (pd_ix (pdv 0) pd_int) (pda_cons (pd_ix (pdv 0) pd_int) (pda_cons (pd_ix (pdv 0) pd_int) (pda_cons (pd_ix (pdv 0) pd_int) (pda_cons (pd_ix (pdv 0) pd_int) (pda_cons (pd_ix (pdv 0) pd_int) (pda_cons (pd_ix (pdv 0) pd_int) pda_nil))))))))))
      pdss_nil)
      (pdss_cons (pds_if (pdt_eq hr.units (pd_cb call_len sim_len rfl G.len (by decide +kernel) (pda_cons (pdv 0) pda_nil)) pd_int)
      (pdss_one (pds_ret (pd_call (c_plus.F.mono (by decide)) hr c_plus.kp c_plus.m pass0 xrel0 (pda_cons (pd_ix (pdv 0) pd_int) (pda_cons (pd_ix (pdv 0) pd_int) (pda_cons (pd_ix (pdv 0) pd_int) (pda_cons (pd_ix (pdv 0) pd_int) (pda_cons (pd_ix (pdv 0) pd_int) (pda_cons (pd_ix (pdv 0) pd_int) (pda_cons (pd_ix (pdv 0) pd_int) (pda_cons (pd_ix (pdv 0) pd_int) pda_nil)))))))))))
      pdss_nil)
      (pdss_one (pds_ret (pd_call (c_plus.F.mono (by decide)) hr c_plus.kp c_plus.m pass0 xrel0 (pda_cons (pd_ix (pdv 0) pd_int) (pda_cons (pd_ix (pdv 0) pd_int) (pda_cons (pd_ix (pdv 0) pd_int) (pda_cons (pd_ix (pdv 0) pd_int) (pda_cons (pd_ix (pdv 0) pd_int) (pda_cons (pd_ix (pdv 0) pd_int) (pda_cons (pd_ix (pdv 0) pd_int) (pda_cons (pd_ix (pdv 0) pd_int) (pda_cons (pd_ix (pdv 0) pd_int) pda_nil))))))))))))))))))))
abbrev s__law_times : Stmt := topS 44
theorem sc__law_times : FnScope ["raws"] ["raws"] (defScope s__law_times) := ⟨rfl, rfl, rfl, by decide +kernel, rfl, by decide +kernel, by decide +kernel⟩
theorem ok__law_times {P : Program} {w : World} {K : PySem.W.Frag} {mg : Str → Option Value} {base : Heap} {f : Addr} {fd : FuncData} {f_times : Addr} (F : FunD K "_law_times" "_law_times" (defArgs s__law_times) (defBody s__law_times) (defScope s__law_times) [] [] f fd) (m : mg "_law_times" = some (.ref f)) (G : Glb mg) (C : Cst mg) (c_times : Cal P w K mg base "times" 4 sp_times f_times) : Cal P w K mg base "_law_times" 5 sp__law_times f := by
  have sc := sc__law_times
  refine ⟨fnL_mk (N := ["raws"]) (ps := ["raws"]) F (fun _ _ _ _ _ _ us hl => match us, hl with | [_], _ => rfl) sc__law_times len__law_times fun cdv A outer s H E ds L Q E' hr h => ⟨d__law_times, ?der, rd__law_times ds L Q E' h⟩, m, F.kp⟩
  case der =>
    exact (pdss_cons (pds_if (pdt_lt (pd_cb call_len sim_len rfl G.len (by decide +kernel) (pda_cons (pdv 0) pda_nil)) pd_int)
      (pdss_one (pds_ret (pd_if (pdt_eq hr.units (pdv 0) (pd_lst pda_nil)) (pd_call0 (c_times.F.mono (by decide)) hr c_times.kp c_times.m pass0 xrel0) (pd_call (c_times.F.mono (by decide)) hr c_times.kp c_times.m pass0 xrel0 (pda_cons (pd_ix (pdv 0) pd_int) pda_nil)))))
      pdss_nil)
      (pdss_cons (pds_if (pdt_eq hr.units (pd_cb call_len sim_len rfl G.len (by decide +kernel) (pda_cons (pdv 0) pda_nil)) pd_int)
      (pdss_one (pds_ret (pd_call (c_times.F.mono (by decide)) hr c_times.kp c_times.m pass0 xrel0 (pda_cons (pd_ix (pdv 0) pd_int) (pda_cons (pd_ix (pdv 0) pd_int) pda_nil)))))
      pdss_nil)
      (pdss_cons (pds_if (pdt_eq hr.units (pd_cb call_len sim_len rfl G.len (by decide +kernel) (pda_cons (pdv 0) pda_nil)) pd_int)
      (pdss_one (pds_ret (pd_call (c_times.F.mono (by decide)) hr c_times.kp c_times.m pass0 xrel0 (pda_cons (pd_ix (pdv 0) pd_int) (pda_cons (pd_ix (pdv 0) pd_int) (pda_cons (pd_ix (pdv 0) pd_int) pda_nil))))))
      pdss_nil)
      (pdss_cons (pds_if (pdt_eq hr.units (pd_cb call_len sim_len rfl G.len (by decide +kernel) (pda_cons (pdv 0) pda_nil)) pd_int)
      (pdss_one (pds_ret (pd_call (c_times.F.mono (by decide)) hr c_times.kp c_times.m pass0 xrel0 (pda_cons (pd_ix (pdv 0) pd_int) (pda_cons (pd_ix (pdv 0) pd_int) (pda_cons (pd_ix (pdv 0) pd_int) (pda_cons (pd_ix (pdv 0) pd_int) pda_nil)))))))
      pdss_nil)
      (pdss_cons (pds_if (pdt_eq hr.units (pd_cb call_len sim_len rfl G.len (by decide +kernel) (pda_cons (pdv 0) pda_nil)) pd_int)
      (pdss_one (pds_ret (pd_call (c_times.F.mono (by decide)) hr c_times.kp c_times.m pass0 xrel0 (pda_cons (pd_ix (pdv 0) pd_int) (pda_cons (pd_ix (pdv 0) pd_int) (pda_cons (pd_ix (pdv 0) pd_int) (pda_cons (pd_ix (pdv 0) pd_int) (pda_cons (pd_ix (pdv 0) pd_int) pda_nil))))))))
      pdss_nil)
      (pdss_cons (pds_if (pdt_eq hr.units (pd_cb call_len sim_len rfl G.len (by decide +kernel) (pda_cons (pdv 0) pda_nil)) pd_int)
      (pdss_one (pds_ret (pd_call (c_times.F.mono (by decide)) hr c_times.kp c_times.m pass0 xrel0 (pda_cons (pd_ix (pdv 0) pd_int) (pda_cons (pd_ix (pdv 0) pd_int) (pda_cons (pd_ix (pdv 0) pd_int) (pda_cons (pd_ix (pdv 0) pd_int) (pda_cons (pd_ix (pdv 0) pd_int) (pda_cons (pd_ix (pdv 0) pd_int) pda_nil)))))))))
      pdss_nil)
      (pdss_one (pds_ret (pd_call (c_times.F.mono (by decide)) hr c_times.kp c_times.m pass0 xrel0 (pda_cons (pd_ix (pdv 0) pd_int) (pda_cons (pd_ix (pdv 0) pd_int) (pda_cons (pd_ix (pdv 0) pd_int) (pda_cons (pd_ix (pdv 0) pd_int) (pda_cons (pd_ix (pdv 0) pd_int) (pda_cons (pd_ix (pdv 0) pd_int) (pda_cons (pd_ix (pdv 0) pd_int) pda_nil))))))))))))))))
abbrev s__law_each_two : Stmt := topS 45
theorem sc__law_each_two : FnScope ["bag", "things", "one", "other", "due", "far", "told"] ["bag", "things"] (defScope s__law_each_two) := ⟨rfl, rfl, rfl, by decide +kernel, rfl, by decide +kernel, by decide +kernel⟩
theorem ok__law_each_two {P : Program} {w : World} {K : PySem.W.Frag} {mg : Str → Option Value} {base : Heap} {f : Addr} {fd : FuncData} {f__law_like f_lowest f__law_raw f__law_less f__law_apart f_is_less f_apart : Addr} (F : FunD K "_law_each_two" "_law_each_two" (defArgs s__law_each_two) (defBody s__law_each_two) (defScope s__law_each_two) [] [] f fd) (m : mg "_law_each_two" = some (.ref f)) (G : Glb mg) (C : Cst mg) (c__law_like : Cal P w K mg base "_law_like" 2 sp__law_like f__law_like) (c_lowest : Cal P w K mg base "lowest" 4 sp_lowest f_lowest) (c__law_raw : Cal P w K mg base "_law_raw" 3 sp__law_raw f__law_raw) (c__law_less : Cal P w K mg base "_law_less" 1 sp__law_less f__law_less) (c__law_apart : Cal P w K mg base "_law_apart" 3 sp__law_apart f__law_apart) (c_is_less : Cal P w K mg base "is_less" 4 sp_is_less f_is_less) (c_apart : Cal P w K mg base "apart" 4 sp_apart f_apart) : Cal P w K mg base "_law_each_two" 5 sp__law_each_two f := by
  have sc := sc__law_each_two
  refine ⟨fnL_mk (N := ["bag", "things", "one", "other", "due", "far", "told"]) (ps := ["bag", "things"]) F (fun _ _ _ _ _ _ us hl => match us, hl with | [_, _], _ => rfl) sc__law_each_two len__law_each_two fun cdv A outer s H E ds L Q E' hr h => ⟨d__law_each_two, ?der, rd__law_each_two ds L Q E' h⟩, m, F.kp⟩
  case der =>
    exact (pdss_cons (pds_forL PassesOwn.never rfl (pdv 1) (pdg_name (i := 2) sc.nd) (pdss_cons (pds_if (pdt_not (pdt_val (pd_call (c__law_like.F.mono (by decide)) hr c__law_like.kp c__law_like.m pass0 xrel0 (pda_cons (pd_call (c_lowest.F.mono (by decide)) hr c_lowest.kp c_lowest.m pass0 xrel0 (pda_cons (pd_call (c__law_raw.F.mono (by decide)) hr c__law_raw.kp c__law_raw.m pass0 xrel0 (pda_cons (pdv 0) (pda_cons (pdv 2) pda_nil))) pda_nil)) (pda_cons (pdv 2) pda_nil)))))
      (pdss_one (pds_ret pd_bl))
      pdss_nil)
      (pdss_one (pds_forL PassesOwn.never rfl (pdv 1) (pdg_name (i := 3) sc.nd) (pdss_cons (pds_set (i := 4) sc.nd (pd_call (c__law_less.F.mono (by decide)) hr c__law_less.kp c__law_less.m pass0 xrel0 (pda_cons (pdv 2) (pda_cons (pdv 3) pda_nil))))
      (pdss_cons (pds_set (i := 5) sc.nd (pd_call (c__law_apart.F.mono (by decide)) hr c__law_apart.kp c__law_apart.m pass0 xrel0 (pda_cons (pdv 2) (pda_cons (pdv 3) pda_nil))))
      (pdss_cons (pds_set (i := 6) sc.nd (pd_call (c_is_less.F.mono (by decide)) hr c_is_less.kp c_is_less.m pass0 xrel0 (pda_cons (pd_call (c__law_raw.F.mono (by decide)) hr c__law_raw.kp c__law_raw.m pass0 xrel0 (pda_cons (pdv 0) (pda_cons (pdv 2) pda_nil))) (pda_cons (pd_call (c__law_raw.F.mono (by decide)) hr c__law_raw.kp c__law_raw.m pass0 xrel0 (pda_cons (pdv 0) (pda_cons (pdv 3) pda_nil))) pda_nil))))
      (pdss_one (pds_if (PDW.pt (pdw_or (pdt_not (pdt_val (pd_call (c__law_like.F.mono (by decide)) hr c__law_like.kp c__law_like.m pass0 xrel0 (pda_cons (pdv 6) (pda_cons (pdv 4) pda_nil))))) (pdw_or1 (pdt_not (pdt_val (pd_call (c__law_like.F.mono (by decide)) hr c__law_like.kp c__law_like.m pass0 xrel0 (pda_cons (pd_call (c_apart.F.mono (by decide)) hr c_apart.kp c_apart.m pass0 xrel0 (pda_cons (pd_call (c__law_raw.F.mono (by decide)) hr c__law_raw.kp c__law_raw.m pass0 xrel0 (pda_cons (pdv 0) (pda_cons (pdv 2) pda_nil))) (pda_cons (pd_call (c__law_raw.F.mono (by decide)) hr c__law_raw.kp c__law_raw.m pass0 xrel0 (pda_cons (pdv 0) (pda_cons (pdv 3) pda_nil))) pda_nil))) (pda_cons (pdv 5) pda_nil))))))))
      (pdss_one (pds_ret pd_bl))
      pdss_nil)))))))))
      (pdss_one (pds_ret pd_bl)))
abbrev s__law_in_order : Stmt := topS 46
theorem sc__law_in_order : FnScope ["things", "found", "one", "other"] ["things"] (defScope s__law_in_order) := ⟨rfl, rfl, rfl, by decide +kernel, rfl, by decide +kernel, by decide +kernel⟩
theorem ok__law_in_order {P : Program} {w : World} {K : PySem.W.Frag} {mg : Str → Option Value} {base : Heap} {f : Addr} {fd : FuncData} {f__law_less : Addr} (F : FunD K "_law_in_order" "_law_in_order" (defArgs s__law_in_order) (defBody s__law_in_order) (defScope s__law_in_order) [] [] f fd) (m : mg "_law_in_order" = some (.ref f)) (G : Glb mg) (C : Cst mg) (c__law_less : Cal P w K mg base "_law_less" 1 sp__law_less f__law_less) : Cal P w K mg base "_law_in_order" 2 sp__law_in_order f := by
  have sc := sc__law_in_order
  refine ⟨fnL_mk (N := ["things", "found", "one", "other"]) (ps := ["things"]) F (fun _ _ _ _ _ _ us hl => match us, hl with | [_], _ => rfl) sc__law_in_order len__law_in_order fun cdv A outer s H E ds L Q E' hr h => ⟨d__law_in_order, ?der, rd__law_in_order ds L Q E' h⟩, m, F.kp⟩
  case der =>
    exact (pdss_cons (pds_set (i := 1) sc.nd (pd_lst pda_nil))
      (pdss_cons (pds_forL PassesOwn.never rfl (pdv 0) (pdg_name (i := 2) sc.nd) (pdss_one (pds_expr (pd_insert (pdv 1) (pda_cons (pd_cb call_len sim_len rfl G.len (by decide +kernel) (pda_cons (pd_lcL (j := 3) rfl sc.nd (pdv 1) (show blkC ["things", "found", "one", "other"] (defScope s__law_in_order) _ _ = true by decide +kernel) (fun _ _ _ _ _ => (pdts_one (pdt_val (pd_call (c__law_less.F.mono (by decide)) hr c__law_less.kp c__law_less.m pass0 xrel0 (pda_cons (pdv 3) (pda_cons (pdv 2) pda_nil)))))) (fun _ _ _ _ _ => (pdv 3)) (hg := fun _ _ _ _ _ => pg_name (i := 3) sc.nd rfl (Or.inl rfl))) pda_nil)) (pda_cons (pdv 2) pda_nil))))))
      (pdss_one (pds_ret (pdv 1)))))
abbrev s_law : Stmt := topS 47
theorem sc_law : FnScope ["script", "bag", "things", "row", "k", "steps", "far", "many", "one", "due", "factors", "other", "told"] ["script"] (defScope s_law) := ⟨rfl, rfl, rfl, by decide +kernel, rfl, by decide +kernel, by decide +kernel⟩
theorem ok_law {P : Program} {w : World} {K : PySem.W.Frag} {mg : Str → Option Value} {base : Heap} {f : Addr} {fd : FuncData} {f__law_bag f__law_things f__law_each_two f__law_in_order f_apart f__law_raw f__law_apart f__law_like f__law_plus f__law_total f__law_draw f__law_mul f__law_times f_times f_quotient f__law_pair f__law_word f_fraction_text f_read_fraction f__law_odd_word : Addr} (F : FunD K "law" "law" (defArgs s_law) (defBody s_law) (defScope s_law) [] [] f fd) (m : mg "law" = some (.ref f)) (G : Glb mg) (C : Cst mg) (c__law_bag : Cal P w K mg base "_law_bag" 1 sp__law_bag f__law_bag) (c__law_things : Cal P w K mg base "_law_things" 3 sp__law_things f__law_things) (c__law_each_two : Cal P w K mg base "_law_each_two" 5 sp__law_each_two f__law_each_two) (c__law_in_order : Cal P w K mg base "_law_in_order" 2 sp__law_in_order f__law_in_order) (c_apart : Cal P w K mg base "apart" 4 sp_apart f_apart) (c__law_raw : Cal P w K mg base "_law_raw" 3 sp__law_raw f__law_raw) (c__law_apart : Cal P w K mg base "_law_apart" 3 sp__law_apart f__law_apart) (c__law_like : Cal P w K mg base "_law_like" 2 sp__law_like f__law_like) (c__law_plus : Cal P w K mg base "_law_plus" 5 sp__law_plus f__law_plus) (c__law_total : Cal P w K mg base "_law_total" 4 sp__law_total f__law_total) (c__law_draw : Cal P w K mg base "_law_draw" 1 sp__law_draw f__law_draw) (c__law_mul : Cal P w K mg base "_law_mul" 3 sp__law_mul f__law_mul) (c__law_times : Cal P w K mg base "_law_times" 5 sp__law_times f__law_times) (c_times : Cal P w K mg base "times" 4 sp_times f_times) (c_quotient : Cal P w K mg base "quotient" 4 sp_quotient f_quotient) (c__law_pair : Cal P w K mg base "_law_pair" 2 sp__law_pair f__law_pair) (c__law_word : Cal P w K mg base "_law_word" 1 sp__law_word f__law_word) (c_fraction_text : Cal P w K mg base "fraction_text" 4 sp_fraction_text f_fraction_text) (c_read_fraction : Cal P w K mg base "read_fraction" 3 sp_read_fraction f_read_fraction) (c__law_odd_word : Cal P w K mg base "_law_odd_word" 3 sp__law_odd_word f__law_odd_word) : FnOk P w K mg base CX0 6 f fd ["script"] (spL K sp_law) := by
  have sc := sc_law
  refine fnOk_mk (N := ["script", "bag", "things", "row", "k", "steps", "far", "many", "one", "due", "factors", "other", "told"]) (ps := ["script"]) F sc_law len_law fun cdv A outer s H E ds L Q E' hr h => ⟨d_law, ?der, rd_law ds L Q E' h⟩
  case der =>
    exact (pdss_cons (pds_set (i := 1) sc.nd (pd_call (c__law_bag.F.mono (by decide)) hr c__law_bag.kp c__law_bag.m pass0 xrel0 (pda_cons (pdv 0) pda_nil)))
      (pdss_cons (pds_set (i := 2) sc.nd (pd_call (c__law_things.F.mono (by decide)) hr c__law_things.kp c__law_things.m pass0 xrel0 (pda_cons (pdv 1) pda_nil)))
      (pdss_cons (pds_if (pdt_not (pdt_val (pd_call (c__law_each_two.F.mono (by decide)) hr c__law_each_two.kp c__law_each_two.m pass0 xrel0 (pda_cons (pdv 1) (pda_cons (pdv 2) pda_nil)))))
      (pdss_one (pds_ret pd_bl))
      pdss_nil)
      (pdss_cons (pds_set (i := 3) sc.nd (pd_call (c__law_in_order.F.mono (by decide)) hr c__law_in_order.kp c__law_in_order.m pass0 xrel0 (pda_cons (pdv 2) pda_nil)))
      (pdss_cons (pds_setLcR (i := 5) (j := 4) rfl sc.nd G.range (pda_cons (pd_sub (pd_cb call_len sim_len rfl G.len (by decide +kernel) (pda_cons (pdv 3) pda_nil)) pd_int) pda_nil) (show blkC ["script", "bag", "things", "row", "k", "steps", "far", "many", "one", "due", "factors", "other", "told"] (defScope s_law) _ _ = true by decide +kernel) (fun _ _ _ _ _ => pdts_nil) (fun _ _ _ _ _ => (pd_call (c_apart.F.mono (by decide)) hr c_apart.kp c_apart.m pass0 xrel0 (pda_cons (pd_call (c__law_raw.F.mono (by decide)) hr c__law_raw.kp c__law_raw.m pass0 xrel0 (pda_cons (pdv 1) (pda_cons (pd_ix (pdv 3) (pdv 4)) pda_nil))) (pda_cons (pd_call (c__law_raw.F.mono (by decide)) hr c__law_raw.kp c__law_raw.m pass0 xrel0 (pda_cons (pdv 1) (pda_cons (pd_ix (pdv 3) (pd_add (pdv 4) pd_int)) pda_nil))) pda_nil)))) (sw_true rfl rfl rfl (by decide +kernel)) (hg := fun _ _ _ _ _ => pg_name (i := 4) sc.nd rfl (Or.inl rfl)))
      (pdss_cons (pds_set (i := 6) sc.nd (pd_call (c__law_apart.F.mono (by decide)) hr c__law_apart.kp c__law_apart.m pass0 xrel0 (pda_cons (pd_ix (pdv 3) pd_int) (pda_cons (pd_ix (pdv 3) (pd_sub (pd_cb call_len sim_len rfl G.len (by decide +kernel) (pda_cons (pdv 3) pda_nil)) pd_int)) pda_nil))))
      (pdss_cons (pds_if (PDW.pt (pdw_or (pdt_eq hr.units (pd_ix (pdv 6) pd_int) pd_int) (pdw_or1 (pdt_not (pdt_val (pd_call (c__law_like.F.mono (by decide)) hr c__law_like.kp c__law_like.m pass0 xrel0 (pda_cons (pd_call (c__law_plus.F.mono (by decide)) hr c__law_plus.kp c__law_plus.m pass0 xrel0 (pda_cons (pdv 5) pda_nil)) (pda_cons (pdv 6) pda_nil))))))))
      (pdss_one (pds_ret pd_bl))
      pdss_nil)
      (pdss_cons (pds_forT PassesOwn.never rfl (pd_tup (pda_cons (pd_cb call_len sim_len rfl G.len (by decide +kernel) (pda_cons (pdv 2) pda_nil)) (pda_cons (pd_call (c__law_draw.F.mono (by decide)) hr c__law_draw.kp c__law_draw.m pass0 xrel0 (pda_cons (pdv 1) (pda_cons pd_int pda_nil))) pda_nil))) (pdg_name (i := 7) sc.nd) (pdss_one (pds_if (pdt_not (pdt_val (pd_call (c__law_like.F.mono (by decide)) hr c__law_like.kp c__law_like.m pass0 xrel0 (pda_cons (pd_call (c__law_plus.F.mono (by decide)) hr c__law_plus.kp c__law_plus.m pass0 xrel0 (pda_cons (pd_lcL (j := 8) rfl sc.nd (pd_slice (pdv 2) pdo_none (pdo_some (pdv 7))) (show blkC ["script", "bag", "things", "row", "k", "steps", "far", "many", "one", "due", "factors", "other", "told"] (defScope s_law) _ _ = true by decide +kernel) (fun _ _ _ _ _ => pdts_nil) (fun _ _ _ _ _ => (pd_call (c__law_raw.F.mono (by decide)) hr c__law_raw.kp c__law_raw.m pass0 xrel0 (pda_cons (pdv 1) (pda_cons (pdv 8) pda_nil)))) (hg := fun _ _ _ _ _ => pg_name (i := 8) sc.nd rfl (Or.inl rfl))) pda_nil)) (pda_cons (pd_call (c__law_total.F.mono (by decide)) hr c__law_total.kp c__law_total.m pass0 xrel0 (pda_cons (pd_slice (pdv 2) pdo_none (pdo_some (pdv 7))) pda_nil)) pda_nil)))))
      (pdss_one (pds_ret pd_bl))
      pdss_nil)))
      (pdss_cons (pds_set (i := 9) sc.nd (pd_tup (pda_cons pd_int (pda_cons pd_int pda_nil))))
      (pdss_cons (pds_set (i := 10) sc.nd (pd_slice (pdv 2) pdo_none (pdo_some (pd_call (c__law_draw.F.mono (by decide)) hr c__law_draw.kp c__law_draw.m pass0 xrel0 (pda_cons (pdv 1) (pda_cons pd_int pda_nil))))))
      (pdss_cons (pds_forL PassesOwn.never rfl (pdv 10) (pdg_name (i := 8) sc.nd) (pdss_one (pds_set (i := 9) sc.nd (pd_call (c__law_mul.F.mono (by decide)) hr c__law_mul.kp c__law_mul.m pass0 xrel0 (pda_cons (pdv 9) (pda_cons (pdv 8) pda_nil))))))
      (pdss_cons (pds_if (pdt_not (pdt_val (pd_call (c__law_like.F.mono (by decide)) hr c__law_like.kp c__law_like.m pass0 xrel0 (pda_cons (pd_call (c__law_times.F.mono (by decide)) hr c__law_times.kp c__law_times.m pass0 xrel0 (pda_cons (pd_lcL (j := 8) rfl sc.nd (pdv 10) (show blkC ["script", "bag", "things", "row", "k", "steps", "far", "many", "one", "due", "factors", "other", "told"] (defScope s_law) _ _ = true by decide +kernel) (fun _ _ _ _ _ => pdts_nil) (fun _ _ _ _ _ => (pd_call (c__law_raw.F.mono (by decide)) hr c__law_raw.kp c__law_raw.m pass0 xrel0 (pda_cons (pdv 1) (pda_cons (pdv 8) pda_nil)))) (hg := fun _ _ _ _ _ => pg_name (i := 8) sc.nd rfl (Or.inl rfl))) pda_nil)) (pda_cons (pdv 9) pda_nil)))))
      (pdss_one (pds_ret pd_bl))
      pdss_nil)
      (pdss_cons (pds_forR PassesOwn.never rfl G.range (pda_cons (pd_sub (pd_cb call_len sim_len rfl G.len (by decide +kernel) (pda_cons (pdv 2) pda_nil)) pd_int) pda_nil) (pdg_name (i := 4) sc.nd) (pdss_cons (pds_par (i := 8) (j := 11) rfl sc.nd (pda_cons (pd_ix (pdv 2) (pdv 4)) (pda_cons (pd_ix (pdv 2) (pd_add (pdv 4) pd_int)) pda_nil)))
      (pdss_cons (pds_set (i := 9) sc.nd (pd_call (c__law_mul.F.mono (by decide)) hr c__law_mul.kp c__law_mul.m pass0 xrel0 (pda_cons (pdv 8) (pda_cons (pdv 11) pda_nil))))
      (pdss_cons (pds_set (i := 12) sc.nd (pd_call (c_times.F.mono (by decide)) hr c_times.kp c_times.m pass0 xrel0 (pda_cons (pd_call (c__law_raw.F.mono (by decide)) hr c__law_raw.kp c__law_raw.m pass0 xrel0 (pda_cons (pdv 1) (pda_cons (pdv 8) pda_nil))) (pda_cons (pd_call (c__law_raw.F.mono (by decide)) hr c__law_raw.kp c__law_raw.m pass0 xrel0 (pda_cons (pdv 1) (pda_cons (pdv 11) pda_nil))) pda_nil))))
      (pdss_cons (pds_if (pdt_not (pdt_val (pd_call (c__law_like.F.mono (by decide)) hr c__law_like.kp c__law_like.m pass0 xrel0 (pda_cons (pdv 12) (pda_cons (pdv 9) pda_nil)))))
      (pdss_one (pds_ret pd_bl))
      pdss_nil)
      (pdss_cons (pds_if (PDW.pt (pdw_and (pdt_gt (pd_ix (pdv 11) pd_int) pd_int) (pdw_and1 (pdt_not (pdt_val (pd_call (c__law_like.F.mono (by decide)) hr c__law_like.kp c__law_like.m pass0 xrel0 (pda_cons (pd_call (c_quotient.F.mono (by decide)) hr c_quotient.kp c_quotient.m pass0 xrel0 (pda_cons (pd_if (pdt_eq hr.units (pd_mod (pdv 4) pd_int) pd_int) (pdv 9) (pdv 12)) (pda_cons (pd_call (c__law_raw.F.mono (by decide)) hr c__law_raw.kp c__law_raw.m pass0 xrel0 (pda_cons (pdv 1) (pda_cons (pdv 11) pda_nil))) pda_nil))) (pda_cons (pdv 8) pda_nil))))))))
      (pdss_one (pds_ret pd_bl))
      pdss_nil)
      (pdss_cons (pds_if (PDW.pt (pdw_and (pdt_gt (pd_ix (pdv 8) pd_int) pd_int) (pdw_and1 (pdt_not (pdt_val (pd_call (c__law_like.F.mono (by decide)) hr c__law_like.kp c__law_like.m pass0 xrel0 (pda_cons (pd_call (c_quotient.F.mono (by decide)) hr c_quotient.kp c_quotient.m pass0 xrel0 (pda_cons (pd_call (c__law_raw.F.mono (by decide)) hr c__law_raw.kp c__law_raw.m pass0 xrel0 (pda_cons (pdv 1) (pda_cons (pdv 11) pda_nil))) (pda_cons (pd_call (c__law_raw.F.mono (by decide)) hr c__law_raw.kp c__law_raw.m pass0 xrel0 (pda_cons (pdv 1) (pda_cons (pdv 8) pda_nil))) pda_nil))) (pda_cons (pd_call (c__law_pair.F.mono (by decide)) hr c__law_pair.kp c__law_pair.m pass0 xrel0 (pda_cons (pd_mul (pd_ix (pdv 11) pd_int) (pd_ix (pdv 8) pd_int)) (pda_cons (pd_mul (pd_ix (pdv 11) pd_int) (pd_ix (pdv 8) pd_int)) pda_nil))) pda_nil))))))))
      (pdss_one (pds_ret pd_bl))
      pdss_nil)
      (pdss_cons (pds_if (pdt_not (pdt_val (pd_call (c__law_like.F.mono (by decide)) hr c__law_like.kp c__law_like.m pass0 xrel0 (pda_cons (pd_call (c_fraction_text.F.mono (by decide)) hr c_fraction_text.kp c_fraction_text.m pass0 xrel0 (pda_cons (pd_call (c__law_raw.F.mono (by decide)) hr c__law_raw.kp c__law_raw.m pass0 xrel0 (pda_cons (pdv 1) (pda_cons (pdv 8) pda_nil))) pda_nil)) (pda_cons (pd_call (c__law_word.F.mono (by decide)) hr c__law_word.kp c__law_word.m pass0 xrel0 (pda_cons (pdv 8) pda_nil)) pda_nil)))))
      (pdss_one (pds_ret pd_bl))
      pdss_nil)
      (pdss_one (pds_if (PDW.pt (pdw_and (pdt_le (pd_cb call_len sim_len rfl G.len (by decide +kernel) (pda_cons (pd_cty call_str_int sim_str rfl G.str (by decide +kernel) (pda_cons (pd_ix (pdv 8) pd_int) pda_nil)) pda_nil)) pd_int) (pdw_and (pdt_le (pd_cb call_len sim_len rfl G.len (by decide +kernel) (pda_cons (pd_cty call_str_int sim_str rfl G.str (by decide +kernel) (pda_cons (pd_ix (pdv 8) pd_int) pda_nil)) pda_nil)) pd_int) (pdw_and1 (pdt_not (pdt_val (pd_call (c__law_like.F.mono (by decide)) hr c__law_like.kp c__law_like.m pass0 xrel0 (pda_cons (pd_call (c_read_fraction.F.mono (by decide)) hr c_read_fraction.kp c_read_fraction.m pass0 xrel0 (pda_cons (pd_call (c__law_odd_word.F.mono (by decide)) hr c__law_odd_word.kp c__law_odd_word.m pass0 xrel0 (pda_cons (pdv 1) (pda_cons (pdv 8) pda_nil))) pda_nil)) (pda_cons (pdv 8) pda_nil)))))))))
      (pdss_one (pds_ret pd_bl))
      pdss_nil))))))))))
      (pdss_one (pds_ret pd_bl)))))))))))))))
abbrev s__law_like : Stmt := topS 31
theorem sc__law_like : FnScope ["told", "due", "k", "key"] ["told", "due"] (defScope s__law_like) := ⟨rfl, rfl, rfl, by decide +kernel, rfl, by decide +kernel, by decide +kernel⟩
theorem step__law_like {P : Program} {w : World} {K : PySem.W.Frag} {mg : Str → Option Value} {base : Heap} {f : Addr} {fd : FuncData} {j : Nat} {sp0 sp1 : DSp} (F : FunD K "_law_like" "_law_like" (defArgs s__law_like) (defBody s__law_like) (defScope s__law_like) [] [] f fd) (m : mg "_law_like" = some (.ref f)) (G : Glb mg)
    (c__law_like : Cal P w K mg base "_law_like" j sp0 f) (len : ∀ ds L Q E, sp1 ds L Q E → ds.length = 2) (rd : ∀ ds L Q E, sp1 ds L Q E → d__law_like sp0 { nx := fun _ L' => Q .non L', rt := Q } (dstart ["told", "due", "k", "key"] ds) L) : Cal P w K mg base "_law_like" (j + 1) sp1 f := by
  have sc := sc__law_like
  refine ⟨fnL_mk (N := ["told", "due", "k", "key"]) (ps := ["told", "due"]) F (fun _ _ _ _ _ _ us hl => match us, hl with | [_, _], _ => rfl) sc__law_like len fun cdv A outer s H E ds L Q E' hr h => ⟨d__law_like sp0, ?der, rd ds L Q E' h⟩, m, F.kp⟩
  case der =>
    exact (pdss_cons (pds_if (PDW.pt (pdw_or (pdt_val (pd_cb call_isi sim_isi rfl G.isinstance (by decide +kernel) (pda_cons (pdv 1) (pda_cons (pd_bltn rfl G.list boot_list) pda_nil)))) (pdw_or1 (pdt_val (pd_cb call_isi sim_isi rfl G.isinstance (by decide +kernel) (pda_cons (pdv 1) (pda_cons (pd_bltn rfl G.tuple boot_tuple) pda_nil)))))))
      (pdss_cons (pds_if (PDW.pt (pdw_or (pdt_ne hr.units (pd_cb call_isi sim_isi rfl G.isinstance (by decide +kernel) (pda_cons (pdv 0) (pda_cons (pd_bltn rfl G.list boot_list) pda_nil))) (pd_cb call_isi sim_isi rfl G.isinstance (by decide +kernel) (pda_cons (pdv 1) (pda_cons (pd_bltn rfl G.list boot_list) pda_nil)))) (pdw_or1 (pdt_ne hr.units (pd_cb call_isi sim_isi rfl G.isinstance (by decide +kernel) (pda_cons (pdv 0) (pda_cons (pd_bltn rfl G.tuple boot_tuple) pda_nil))) (pd_cb call_isi sim_isi rfl G.isinstance (by decide +kernel) (pda_cons (pdv 1) (pda_cons (pd_bltn rfl G.tuple boot_tuple) pda_nil)))))))
      (pdss_one (pds_ret pd_bl))
      pdss_nil)
      (pdss_cons (pds_if (pdt_ne hr.units (pd_cb call_len sim_len rfl G.len (by decide +kernel) (pda_cons (pdv 0) pda_nil)) (pd_cb call_len sim_len rfl G.len (by decide +kernel) (pda_cons (pdv 1) pda_nil)))
      (pdss_one (pds_ret pd_bl))
      pdss_nil)
      (pdss_one (pds_ret (pd_eq hr.units (pd_lcR (j := 2) rfl sc.nd G.range (pda_cons (pd_cb call_len sim_len rfl G.len (by decide +kernel) (pda_cons (pdv 1) pda_nil)) pda_nil) (show blkC ["told", "due", "k", "key"] (defScope s__law_like) _ _ = true by decide +kernel) (fun _ _ _ _ _ => (pdts_one (pdt_not (pdt_val (pd_call c__law_like.F hr c__law_like.kp c__law_like.m pass0 xrel0 (pda_cons (pd_ix (pdv 0) (pdv 2)) (pda_cons (pd_ix (pdv 1) (pdv 2)) pda_nil))))))) (fun _ _ _ _ _ => (pdv 2)) (hg := fun _ _ _ _ _ => pg_name (i := 2) sc.nd rfl (Or.inl rfl))) (pd_lst pda_nil))))))
      pdss_nil)
      (pdss_cons (pds_if (pdt_val (pd_cb call_isi sim_isi rfl G.isinstance (by decide +kernel) (pda_cons (pdv 1) (pda_cons (pd_bltn rfl G.dict boot_dict) pda_nil))))
      (pdss_cons (pds_if (PDW.pt (pdw_or (pdt_not (pdt_val (pd_cb call_isi sim_isi rfl G.isinstance (by decide +kernel) (pda_cons (pdv 0) (pda_cons (pd_bltn rfl G.dict boot_dict) pda_nil))))) (pdw_or1 (pdt_ne hr.units (pd_cb call_len sim_len rfl G.len (by decide +kernel) (pda_cons (pdv 0) pda_nil)) (pd_cb call_len sim_len rfl G.len (by decide +kernel) (pda_cons (pdv 1) pda_nil))))))
      (pdss_one (pds_ret pd_bl))
      pdss_nil)
      (pdss_one pds_never))
      pdss_nil)
      (pdss_cons (pds_if (pdt_isN (pdv 1) pd_non)
      (pdss_one (pds_ret (pd_isN (pdv 0) pd_non)))
      pdss_nil)
      (pdss_cons (pds_if (PDW.pt (pdw_or (pdt_ne hr.units (pd_cb call_isi sim_isi rfl G.isinstance (by decide +kernel) (pda_cons (pdv 0) (pda_cons (pd_bltn rfl G.bool boot_bool) pda_nil))) (pd_cb call_isi sim_isi rfl G.isinstance (by decide +kernel) (pda_cons (pdv 1) (pda_cons (pd_bltn rfl G.bool boot_bool) pda_nil)))) (pdw_or1 (pdt_ne hr.units (pd_cb call_isi sim_isi rfl G.isinstance (by decide +kernel) (pda_cons (pdv 0) (pda_cons (pd_bltn rfl G.int boot_int) pda_nil))) (pd_cb call_isi sim_isi rfl G.isinstance (by decide +kernel) (pda_cons (pdv 1) (pda_cons (pd_bltn rfl G.int boot_int) pda_nil)))))))
      (pdss_one (pds_ret pd_bl))
      pdss_nil)
      (pdss_one (pds_ret (pd_and (pd_eq hr.units (pd_cb call_isi sim_isi rfl G.isinstance (by decide +kernel) (pda_cons (pdv 0) (pda_cons (pd_bltn rfl G.str boot_str) pda_nil))) (pd_cb call_isi sim_isi rfl G.isinstance (by decide +kernel) (pda_cons (pdv 1) (pda_cons (pd_bltn rfl G.str boot_str) pda_nil)))) (pd_one (pd_eq hr.units (pdv 0) (pdv 1))))))))))
end K00
namespace K00
open PySem PySem.Spec PyProof.Rows L2 DV FR
/-! ### the head: facts by names, the run -/
def D_limit : He.DefD := ⟨("limit", none), "limit", "limit", defArgs s_limit, defBody s_limit, defScope s_limit, [], []⟩
def D_is_number : He.DefD := ⟨("is_number", none), "is_number", "is_number", defArgs s_is_number, defBody s_is_number, defScope s_is_number, [], []⟩
def D_is_fraction : He.DefD := ⟨("is_fraction", none), "is_fraction", "is_fraction", defArgs s_is_fraction, defBody s_is_fraction, defScope s_is_fraction, [], []⟩
def D__check : He.DefD := ⟨("_check", none), "_check", "_check", defArgs s__check, defBody s__check, defScope s__check, [], []⟩
def D__reduced : He.DefD := ⟨("_reduced", none), "_reduced", "_reduced", defArgs s__reduced, defBody s__reduced, defScope s__reduced, [], []⟩
def D__is_count : He.DefD := ⟨("_is_count", none), "_is_count", "_is_count", defArgs s__is_count, defBody s__is_count, defScope s__is_count, [], []⟩
def D_fraction_or_none : He.DefD := ⟨("fraction_or_none", none), "fraction_or_none", "fraction_or_none", defArgs s_fraction_or_none, defBody s_fraction_or_none, defScope s_fraction_or_none, [], []⟩
def D_read_fraction : He.DefD := ⟨("read_fraction", none), "read_fraction", "read_fraction", defArgs s_read_fraction, defBody s_read_fraction, defScope s_read_fraction, [], []⟩
def D_lowest : He.DefD := ⟨("lowest", none), "lowest", "lowest", defArgs s_lowest, defBody s_lowest, defScope s_lowest, [], []⟩
def D_fraction_text : He.DefD := ⟨("fraction_text", none), "fraction_text", "fraction_text", defArgs s_fraction_text, defBody s_fraction_text, defScope s_fraction_text, [], []⟩
def D_plus : He.DefD := ⟨("plus", none), "plus", "plus", defArgs s_plus, defBody s_plus, defScope s_plus, [], []⟩
def D_times : He.DefD := ⟨("times", none), "times", "times", defArgs s_times, defBody s_times, defScope s_times, [], []⟩
def D_quotient : He.DefD := ⟨("quotient", none), "quotient", "quotient", defArgs s_quotient, defBody s_quotient, defScope s_quotient, [], []⟩
def D_apart : He.DefD := ⟨("apart", none), "apart", "apart", defArgs s_apart, defBody s_apart, defScope s_apart, [], []⟩
def D_is_less : He.DefD := ⟨("is_less", none), "is_less", "is_less", defArgs s_is_less, defBody s_is_less, defScope s_is_less, [], []⟩
def D__law_bag : He.DefD := ⟨("_law_bag", none), "_law_bag", "_law_bag", defArgs s__law_bag, defBody s__law_bag, defScope s__law_bag, [], []⟩
def D__law_draw : He.DefD := ⟨("_law_draw", none), "_law_draw", "_law_draw", defArgs s__law_draw, defBody s__law_draw, defScope s__law_draw, [], []⟩
def D__law_of : He.DefD := ⟨("_law_of", none), "_law_of", "_law_of", defArgs s__law_of, defBody s__law_of, defScope s__law_of, [], []⟩
def D__law_mixed : He.DefD := ⟨("_law_mixed", none), "_law_mixed", "_law_mixed", defArgs s__law_mixed, defBody s__law_mixed, defScope s__law_mixed, [], []⟩
def D__law_like : He.DefD := ⟨("_law_like", none), "_law_like", "_law_like", defArgs s__law_like, defBody s__law_like, defScope s__law_like, [], []⟩
def D__law_gcd : He.DefD := ⟨("_law_gcd", none), "_law_gcd", "_law_gcd", defArgs s__law_gcd, defBody s__law_gcd, defScope s__law_gcd, [], []⟩
def D__law_pair : He.DefD := ⟨("_law_pair", none), "_law_pair", "_law_pair", defArgs s__law_pair, defBody s__law_pair, defScope s__law_pair, [], []⟩
def D__law_add : He.DefD := ⟨("_law_add", none), "_law_add", "_law_add", defArgs s__law_add, defBody s__law_add, defScope s__law_add, [], []⟩
def D__law_mul : He.DefD := ⟨("_law_mul", none), "_law_mul", "_law_mul", defArgs s__law_mul, defBody s__law_mul, defScope s__law_mul, [], []⟩
def D__law_less : He.DefD := ⟨("_law_less", none), "_law_less", "_law_less", defArgs s__law_less, defBody s__law_less, defScope s__law_less, [], []⟩
def D__law_total : He.DefD := ⟨("_law_total", none), "_law_total", "_law_total", defArgs s__law_total, defBody s__law_total, defScope s__law_total, [], []⟩
def D__law_word : He.DefD := ⟨("_law_word", none), "_law_word", "_law_word", defArgs s__law_word, defBody s__law_word, defScope s__law_word, [], []⟩
def D__law_odd_word : He.DefD := ⟨("_law_odd_word", none), "_law_odd_word", "_law_odd_word", defArgs s__law_odd_word, defBody s__law_odd_word, defScope s__law_odd_word, [], []⟩
def D__law_things : He.DefD := ⟨("_law_things", none), "_law_things", "_law_things", defArgs s__law_things, defBody s__law_things, defScope s__law_things, [], []⟩
def D__law_raw : He.DefD := ⟨("_law_raw", none), "_law_raw", "_law_raw", defArgs s__law_raw, defBody s__law_raw, defScope s__law_raw, [], []⟩
def D__law_apart : He.DefD := ⟨("_law_apart", none), "_law_apart", "_law_apart", defArgs s__law_apart, defBody s__law_apart, defScope s__law_apart, [], []⟩
def D__law_plus : He.DefD := ⟨("_law_plus", none), "_law_plus", "_law_plus", defArgs s__law_plus, defBody s__law_plus, defScope s__law_plus, [], []⟩
def D__law_times : He.DefD := ⟨("_law_times", none), "_law_times", "_law_times", defArgs s__law_times, defBody s__law_times, defScope s__law_times, [], []⟩
def D__law_each_two : He.DefD := ⟨("_law_each_two", none), "_law_each_two", "_law_each_two", defArgs s__law_each_two, defBody s__law_each_two, defScope s__law_each_two, [], []⟩
def D__law_in_order : He.DefD := ⟨("_law_in_order", none), "_law_in_order", "_law_in_order", defArgs s__law_in_order, defBody s__law_in_order, defScope s__law_in_order, [], []⟩
def D_law : He.DefD := ⟨("law", none), "law", "law", defArgs s_law, defBody s_law, defScope s_law, [], []⟩
def fn : List He.DefD := [D_limit, D_is_number, D_is_fraction, D__check, D__reduced, D__is_count, D_fraction_or_none, D_read_fraction, D_lowest, D_fraction_text, D_plus, D_times, D_quotient, D_apart, D_is_less, D__law_bag, D__law_draw, D__law_of, D__law_mixed, D__law_like, D__law_gcd, D__law_pair, D__law_add, D__law_mul, D__law_less, D__law_total, D__law_word, D__law_odd_word, D__law_things, D__law_raw, D__law_apart, D__law_plus, D__law_times, D__law_each_two, D__law_in_order, D_law]
def fa : List He.Fa := [.free "abs", .free "all", .free "bool", .free "dict", .free "int", .free "isinstance", .free "len", .free "list", .free "max", .free "min", .free "range", .free "str", .free "tuple", .int "MOST_DIGITS" 60, .glo "BOUNDS", .glo "limit", .glo "is_number", .glo "is_fraction", .glo "_check", .glo "_reduced", .glo "_is_count", .glo "fraction_or_none", .glo "read_fraction", .glo "lowest", .glo "fraction_text", .glo "plus", .glo "times", .glo "quotient", .glo "apart", .glo "is_less", .glo "_law_bag", .glo "_law_draw", .glo "_law_of", .glo "_law_mixed", .glo "_law_like", .glo "_law_gcd", .glo "_law_pair", .glo "_law_add", .glo "_law_mul", .glo "_law_less", .glo "_law_total", .glo "_law_word", .glo "_law_odd_word", .glo "_law_things", .glo "_law_raw", .glo "_law_apart", .glo "_law_plus", .glo "_law_times", .glo "_law_each_two", .glo "_law_in_order", .glo "law"]
def ks : List Str := ["kinds", "marks", "ties", "signs", "crowds", "sorts", "folded", "worlds", "features", "values", "choice", "cases", "members", "lines", "roots", "times", "term", "written", "table", "row", "picture", "size", "draws", "contents", "verdict", "asked", "rows", "bits", "text"]
def tB : He.Tab := (fun K => He.ga K "BOUNDS", ks)
def ex (K : PySem.W.Frag) : Bool := He.eqO (PySem.W.nsIn K mainGlobals "gcd") (some (some (.builtin "math.gcd"))) && He.valsB K (He.ga K "BOUNDS") [("bits", .int 12000)]
def ll0 : List Str := ["gcd", "ModelError", "Missing", "BadFraction", "TooMany", "NoSuch", "BOUNDS", "limit", "MOST_DIGITS", "is_number", "is_fraction", "_check", "_reduced", "_is_count", "fraction_or_none", "read_fraction", "lowest", "fraction_text", "plus", "times", "quotient", "apart", "is_less", "_law_bag", "_law_draw", "_law_of", "_law_mixed", "_law_like", "_law_gcd", "_law_pair"]
def ll1 : List Str := ["_law_add", "_law_mul", "_law_less", "_law_total", "_law_word", "_law_odd_word", "_law_things", "_law_raw", "_law_apart", "_law_plus", "_law_times", "_law_each_two", "_law_in_order"]
def loose : List Str := ll0 ++ ll1
abbrev R : PySem.W.OpenRow := PySem.W.OpenLaw.row PySem.Challenge.rw_howevermany_k00_fractions_in_order
abbrev hk : PySem.W.Hook := He.hookX 4 fa fn [tB] [] ex
def ob (s : PySem.W.SharedT) : He.AlX := He.obsX 4 fa fn [tB] [] ex (HandSHeadRun.getT s)
theorem ob_eq (s : PySem.W.SharedT) : ob s = hk.obs s.abs := He.obsX_eq (HandSHeadRun.getT_eq s)
theorem run0 (w : World) : HandSHeadRun.RunEqI R (PySem.W.view R.prog [0, 47]) hk ob 6000 loose (w.withFollow "special-get-raises" false) := by
  unfold HandSHeadRun.RunEqI
  kernel_rfl
theorem run1 (w : World) : HandSHeadRun.RunEqI R (PySem.W.view R.prog [0, 47]) hk ob 6000 loose (w.withFollow "special-get-raises" true) := by
  unfold HandSHeadRun.RunEqI
  kernel_rfl
theorem run (w : World) : HandSHeadRun.RunEqI R (PySem.W.view R.prog [0, 47]) hk ob 6000 loose w := PySem.W.byRow2 "special-get-raises" (P := fun w => HandSHeadRun.RunEqI R (PySem.W.view R.prog [0, 47]) hk ob 6000 loose w) run0 run1 w
theorem facts {P : Program} {w : World} {K : PySem.W.Frag} {h : Heap} {mg : Str → Option Value} {f : Addr} (X : K.In h) (N : h.Ns mainGlobals mg) (hfa : mg ("law" : Str) = some (.ref f)) (c : He.SaysX fa fn [tB] [] ex w h K) :
    ∃ fd : FuncData, (∀ (s : Shared) (v : Value), BindsTo s fd ⟨[v], []⟩ [("script", v)]) ∧ ∀ base : Heap, K.In base → base.Ns mainGlobals mg → FnOk P w K mg base CX0 6 f fd ["script"] (spL K sp_law) := by
  obtain ⟨m1, m2⟩ := He.ba c.more
  have C0 := c.t.d
  have G : Glb mg := ⟨He.free_ok X N (C0.fact 0 (f := .free "abs") rfl), He.free_ok X N (C0.fact 1 (f := .free "all") rfl), He.free_ok X N (C0.fact 2 (f := .free "bool") rfl), He.free_ok X N (C0.fact 3 (f := .free "dict") rfl), He.free_ok X N (C0.fact 4 (f := .free "int") rfl), He.free_ok X N (C0.fact 5 (f := .free "isinstance") rfl), He.free_ok X N (C0.fact 6 (f := .free "len") rfl), He.free_ok X N (C0.fact 7 (f := .free "list") rfl), He.free_ok X N (C0.fact 8 (f := .free "max") rfl), He.free_ok X N (C0.fact 9 (f := .free "min") rfl), He.free_ok X N (C0.fact 10 (f := .free "range") rfl), He.free_ok X N (C0.fact 11 (f := .free "str") rfl), He.free_ok X N (C0.fact 12 (f := .free "tuple") rfl), PySem.W.mg_of X N (He.eqO_ok m1)⟩
  have C : Cst mg := ⟨He.int_ok X N (C0.fact 13 (f := .int "MOST_DIGITS" 60) rfl)⟩
  have mB := He.glo_ok X N (C0.fact 14 (f := .glo "BOUNDS") rfl)
  obtain ⟨es, n, kd⟩ := c.t.tab 0 (t := tB) rfl
  obtain ⟨u, nb, ru⟩ := He.valsB_ok m2 (q := ("bits", .int 12000)) (List.mem_singleton.mpr rfl)
  obtain ⟨fd_limit, F_limit⟩ := C0.def_ 0 (d := D_limit) rfl
  have m_limit := He.glo_ok X N (C0.fact 15 (f := .glo "limit") rfl)
  obtain ⟨fd_is_number, F_is_number⟩ := C0.def_ 1 (d := D_is_number) rfl
  have m_is_number := He.glo_ok X N (C0.fact 16 (f := .glo "is_number") rfl)
  obtain ⟨fd_is_fraction, F_is_fraction⟩ := C0.def_ 2 (d := D_is_fraction) rfl
  have m_is_fraction := He.glo_ok X N (C0.fact 17 (f := .glo "is_fraction") rfl)
  obtain ⟨fd__check, F__check⟩ := C0.def_ 3 (d := D__check) rfl
  have m__check := He.glo_ok X N (C0.fact 18 (f := .glo "_check") rfl)
  obtain ⟨fd__reduced, F__reduced⟩ := C0.def_ 4 (d := D__reduced) rfl
  have m__reduced := He.glo_ok X N (C0.fact 19 (f := .glo "_reduced") rfl)
  obtain ⟨fd__is_count, F__is_count⟩ := C0.def_ 5 (d := D__is_count) rfl
  have m__is_count := He.glo_ok X N (C0.fact 20 (f := .glo "_is_count") rfl)
  obtain ⟨fd_fraction_or_none, F_fraction_or_none⟩ := C0.def_ 6 (d := D_fraction_or_none) rfl
  have m_fraction_or_none := He.glo_ok X N (C0.fact 21 (f := .glo "fraction_or_none") rfl)
  obtain ⟨fd_read_fraction, F_read_fraction⟩ := C0.def_ 7 (d := D_read_fraction) rfl
  have m_read_fraction := He.glo_ok X N (C0.fact 22 (f := .glo "read_fraction") rfl)
  obtain ⟨fd_lowest, F_lowest⟩ := C0.def_ 8 (d := D_lowest) rfl
  have m_lowest := He.glo_ok X N (C0.fact 23 (f := .glo "lowest") rfl)
  obtain ⟨fd_fraction_text, F_fraction_text⟩ := C0.def_ 9 (d := D_fraction_text) rfl
  have m_fraction_text := He.glo_ok X N (C0.fact 24 (f := .glo "fraction_text") rfl)
  obtain ⟨fd_plus, F_plus⟩ := C0.def_ 10 (d := D_plus) rfl
  have m_plus := He.glo_ok X N (C0.fact 25 (f := .glo "plus") rfl)
  obtain ⟨fd_times, F_times⟩ := C0.def_ 11 (d := D_times) rfl
  have m_times := He.glo_ok X N (C0.fact 26 (f := .glo "times") rfl)
  obtain ⟨fd_quotient, F_quotient⟩ := C0.def_ 12 (d := D_quotient) rfl
  have m_quotient := He.glo_ok X N (C0.fact 27 (f := .glo "quotient") rfl)
  obtain ⟨fd_apart, F_apart⟩ := C0.def_ 13 (d := D_apart) rfl
  have m_apart := He.glo_ok X N (C0.fact 28 (f := .glo "apart") rfl)
  obtain ⟨fd_is_less, F_is_less⟩ := C0.def_ 14 (d := D_is_less) rfl
  have m_is_less := He.glo_ok X N (C0.fact 29 (f := .glo "is_less") rfl)
  obtain ⟨fd__law_bag, F__law_bag⟩ := C0.def_ 15 (d := D__law_bag) rfl
  have m__law_bag := He.glo_ok X N (C0.fact 30 (f := .glo "_law_bag") rfl)
  obtain ⟨fd__law_draw, F__law_draw⟩ := C0.def_ 16 (d := D__law_draw) rfl
  have m__law_draw := He.glo_ok X N (C0.fact 31 (f := .glo "_law_draw") rfl)
  obtain ⟨fd__law_of, F__law_of⟩ := C0.def_ 17 (d := D__law_of) rfl
  have m__law_of := He.glo_ok X N (C0.fact 32 (f := .glo "_law_of") rfl)
  obtain ⟨fd__law_mixed, F__law_mixed⟩ := C0.def_ 18 (d := D__law_mixed) rfl
  have m__law_mixed := He.glo_ok X N (C0.fact 33 (f := .glo "_law_mixed") rfl)
  obtain ⟨fd__law_like, F__law_like⟩ := C0.def_ 19 (d := D__law_like) rfl
  have m__law_like := He.glo_ok X N (C0.fact 34 (f := .glo "_law_like") rfl)
  obtain ⟨fd__law_gcd, F__law_gcd⟩ := C0.def_ 20 (d := D__law_gcd) rfl
  have m__law_gcd := He.glo_ok X N (C0.fact 35 (f := .glo "_law_gcd") rfl)
  obtain ⟨fd__law_pair, F__law_pair⟩ := C0.def_ 21 (d := D__law_pair) rfl
  have m__law_pair := He.glo_ok X N (C0.fact 36 (f := .glo "_law_pair") rfl)
  obtain ⟨fd__law_add, F__law_add⟩ := C0.def_ 22 (d := D__law_add) rfl
  have m__law_add := He.glo_ok X N (C0.fact 37 (f := .glo "_law_add") rfl)
  obtain ⟨fd__law_mul, F__law_mul⟩ := C0.def_ 23 (d := D__law_mul) rfl
  have m__law_mul := He.glo_ok X N (C0.fact 38 (f := .glo "_law_mul") rfl)
  obtain ⟨fd__law_less, F__law_less⟩ := C0.def_ 24 (d := D__law_less) rfl
  have m__law_less := He.glo_ok X N (C0.fact 39 (f := .glo "_law_less") rfl)
  obtain ⟨fd__law_total, F__law_total⟩ := C0.def_ 25 (d := D__law_total) rfl
  have m__law_total := He.glo_ok X N (C0.fact 40 (f := .glo "_law_total") rfl)
  obtain ⟨fd__law_word, F__law_word⟩ := C0.def_ 26 (d := D__law_word) rfl
  have m__law_word := He.glo_ok X N (C0.fact 41 (f := .glo "_law_word") rfl)
  obtain ⟨fd__law_odd_word, F__law_odd_word⟩ := C0.def_ 27 (d := D__law_odd_word) rfl
  have m__law_odd_word := He.glo_ok X N (C0.fact 42 (f := .glo "_law_odd_word") rfl)
  obtain ⟨fd__law_things, F__law_things⟩ := C0.def_ 28 (d := D__law_things) rfl
  have m__law_things := He.glo_ok X N (C0.fact 43 (f := .glo "_law_things") rfl)
  obtain ⟨fd__law_raw, F__law_raw⟩ := C0.def_ 29 (d := D__law_raw) rfl
  have m__law_raw := He.glo_ok X N (C0.fact 44 (f := .glo "_law_raw") rfl)
  obtain ⟨fd__law_apart, F__law_apart⟩ := C0.def_ 30 (d := D__law_apart) rfl
  have m__law_apart := He.glo_ok X N (C0.fact 45 (f := .glo "_law_apart") rfl)
  obtain ⟨fd__law_plus, F__law_plus⟩ := C0.def_ 31 (d := D__law_plus) rfl
  have m__law_plus := He.glo_ok X N (C0.fact 46 (f := .glo "_law_plus") rfl)
  obtain ⟨fd__law_times, F__law_times⟩ := C0.def_ 32 (d := D__law_times) rfl
  have m__law_times := He.glo_ok X N (C0.fact 47 (f := .glo "_law_times") rfl)
  obtain ⟨fd__law_each_two, F__law_each_two⟩ := C0.def_ 33 (d := D__law_each_two) rfl
  have m__law_each_two := He.glo_ok X N (C0.fact 48 (f := .glo "_law_each_two") rfl)
  obtain ⟨fd__law_in_order, F__law_in_order⟩ := C0.def_ 34 (d := D__law_in_order) rfl
  have m__law_in_order := He.glo_ok X N (C0.fact 49 (f := .glo "_law_in_order") rfl)
  obtain ⟨fd_law, F_law⟩ := C0.def_ 35 (d := D_law) rfl
  have e := hfa.symm.trans (He.glo_ok X N (C0.fact 50 (f := .glo "law") rfl))
  cases e
  have b := FunD.bindsA (ps := ["script"]) F_law fun _ _ _ _ _ _ us hl => match us, hl with | [_], _ => rfl
  refine ⟨fd_law, fun s v => b s [v] rfl, fun base _ _ => ?_⟩
  have c_limit := ok_limit (P := P) (w := w) (base := base) F_limit m_limit G C mB kd nb ru
  have c_is_number := ok_is_number (P := P) (w := w) (base := base) F_is_number m_is_number G C 
  have c__reduced := ok__reduced (P := P) (w := w) (base := base) F__reduced m__reduced G C 
  have c__is_count := ok__is_count (P := P) (w := w) (base := base) F__is_count m__is_count G C 
  have c__law_bag := ok__law_bag (P := P) (w := w) (base := base) F__law_bag m__law_bag G C 
  have c__law_draw := ok__law_draw (P := P) (w := w) (base := base) F__law_draw m__law_draw G C 
  have c__law_gcd := ok__law_gcd (P := P) (w := w) (base := base) F__law_gcd m__law_gcd G C 
  have c__law_less := ok__law_less (P := P) (w := w) (base := base) F__law_less m__law_less G C 
  have c__law_word := ok__law_word (P := P) (w := w) (base := base) F__law_word m__law_word G C 
  have c_is_fraction := ok_is_fraction (P := P) (w := w) (base := base) F_is_fraction m_is_fraction G C c_is_number
  have c_fraction_or_none := ok_fraction_or_none (P := P) (w := w) (base := base) F_fraction_or_none m_fraction_or_none G C c__is_count c__reduced
  have c__law_of := ok__law_of (P := P) (w := w) (base := base) F__law_of m__law_of G C c__law_draw
  have c__law_mixed := ok__law_mixed (P := P) (w := w) (base := base) F__law_mixed m__law_mixed G C c__law_draw
  have l0 : Cal P w K mg base "_law_like" 0 (fun _ _ _ _ => False) _ := ⟨fun A outer s H us vs Q E hr e r hs => (by obtain ⟨_, _, _, _, _, _, z, _⟩ := hs; exact z.elim), m__law_like, F__law_like.kp⟩
  have l1 := step__law_like (sp1 := sp__law_like0) F__law_like m__law_like G l0 len__law_like0 rd__law_like0
  have c__law_like := step__law_like (sp1 := sp__law_like) F__law_like m__law_like G l1 len__law_like rd__law_like
  have c__law_pair := ok__law_pair (P := P) (w := w) (base := base) F__law_pair m__law_pair G C c__law_gcd
  have c__law_in_order := ok__law_in_order (P := P) (w := w) (base := base) F__law_in_order m__law_in_order G C c__law_less
  have c__check := ok__check (P := P) (w := w) (base := base) F__check m__check G C c_is_fraction
  have c_read_fraction := ok_read_fraction (P := P) (w := w) (base := base) F_read_fraction m_read_fraction G C c_fraction_or_none
  have c__law_add := ok__law_add (P := P) (w := w) (base := base) F__law_add m__law_add G C c__law_pair
  have c__law_mul := ok__law_mul (P := P) (w := w) (base := base) F__law_mul m__law_mul G C c__law_pair
  have c__law_odd_word := ok__law_odd_word (P := P) (w := w) (base := base) F__law_odd_word m__law_odd_word G C c__law_of c__law_word
  have c__law_things := ok__law_things (P := P) (w := w) (base := base) F__law_things m__law_things G C c__law_draw c__law_pair c__law_of c__law_mixed
  have c__law_raw := ok__law_raw (P := P) (w := w) (base := base) F__law_raw m__law_raw G C c__law_draw c__law_of
  have c__law_apart := ok__law_apart (P := P) (w := w) (base := base) F__law_apart m__law_apart G C c__law_less c__law_pair
  have c_lowest := ok_lowest (P := P) (w := w) (base := base) F_lowest m_lowest G C c__check c__reduced
  have c_fraction_text := ok_fraction_text (P := P) (w := w) (base := base) F_fraction_text m_fraction_text G C c__check c__reduced c_limit
  have c_plus := ok_plus (P := P) (w := w) (base := base) F_plus m_plus G C c__check c__reduced
  have c_times := ok_times (P := P) (w := w) (base := base) F_times m_times G C c__check c__reduced
  have c_quotient := ok_quotient (P := P) (w := w) (base := base) F_quotient m_quotient G C c__check c__reduced
  have c_apart := ok_apart (P := P) (w := w) (base := base) F_apart m_apart G C c__check c__reduced
  have c_is_less := ok_is_less (P := P) (w := w) (base := base) F_is_less m_is_less G C c__check c__reduced
  have c__law_total := ok__law_total (P := P) (w := w) (base := base) F__law_total m__law_total G C c__law_add
  have c__law_plus := ok__law_plus (P := P) (w := w) (base := base) F__law_plus m__law_plus G C c_plus
  have c__law_times := ok__law_times (P := P) (w := w) (base := base) F__law_times m__law_times G C c_times
  have c__law_each_two := ok__law_each_two (P := P) (w := w) (base := base) F__law_each_two m__law_each_two G C c__law_like c_lowest c__law_raw c__law_less c__law_apart c_is_less c_apart
  exact ok_law F_law hfa G C c__law_bag c__law_things c__law_each_two c__law_in_order c_apart c__law_raw c__law_apart c__law_like c__law_plus c__law_total c__law_draw c__law_mul c__law_times c_times c_quotient c__law_pair c__law_word c_fraction_text c_read_fraction c__law_odd_word
end K00
open PySem PySem.W PySem.Calls PyProof.Rows
theorem PySem.Challenge.cw_howevermany_k00_fractions_in_order_holds : PySem.Challenge.rw_howevermany_k00_fractions_in_order.Holds := by
  w_on; o_law
  refine HandSHeadRun.head_imp (r := OpenLaw.row PySem.Challenge.rw_howevermany_k00_fractions_in_order) (q := view (OpenLaw.row PySem.Challenge.rw_howevermany_k00_fractions_in_order).prog [0, 47]) (H := K00.hk) (ob := K00.ob) (M := 6000) (loose := K00.loose) (d := HandSHeadRun.topDef (OpenLaw.row PySem.Challenge.rw_howevermany_k00_fractions_in_order).prog 47) (kwd := []) K00.ob_eq
    K00.run (by kernel_rfl) (by kernel_rfl) (by kernel_rfl) (by rfl) (by first | assumption | decide +kernel) (by decide +kernel) ⟨rfl, rfl, rfl, rfl, rfl, by decide +kernel⟩ ?hw ?hc
  case hw => w_witness2
  case hc =>
    refine L2.walk_ofE (l := PySem.Challenge.rw_howevermany_k00_fractions_in_order) (n := 63) (k := 6) (x := "script") (CX := L2.CX0) rfl (by decide) (by kernel_rfl) ⟨rfl, by decide, by decide⟩ ?F (fun _ _ _ _ z => z)
    intro w mg fa h Y N hmg0
    obtain ⟨K, KX, c⟩ := Y
    have hmg : mg ("law" : PySem.Str) = some (.ref fa) := by
      have e : (HandSHeadRun.topDef (OpenLaw.row PySem.Challenge.rw_howevermany_k00_fractions_in_order).prog 47).name = ("law" : PySem.Str) := by kernel_rfl
      rw [← e]
      exact hmg0
    obtain ⟨fd, hb, hF⟩ := K00.facts (P := (PySem.Challenge.rw_howevermany_k00_fractions_in_order).prog) (w := w) KX N hmg c
    exact ⟨K, fd, DV.spL K K00.sp_law, KX, hb, fun H a ns hl hO hS => DV.law_start hS hO ⟨ns, rfl, hl, fun _ => rfl⟩, hF⟩
