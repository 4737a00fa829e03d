import PyProof.Rows.All
import Wide.All
import OpenK.AllK
import Wide.FinOn
import HandS.ForDict
import HandS.ForMost
import HandS.IsInst
import KE.SortData
import HandS.TupAny
import HandS.TupMul
import HandS.Style
import HandS.Zip
import HandS.Deep
import HandS.NoneIn
import KE.KRevSl
import HandS.Iter
import PyProof.ListIndex
import PyProof.ListIndexNeg
import HandS.TupSets
import HandS.SetFor
import HandS.Strs
import HandS.Dict
import KE.GoesEnum
import HandS.Codes
import PyProof.FactsAll.list_0
import PyProof.FactsAll.list_3
import HandS.Words
import HandS.Ends
import PySem.Challenge.RW_tiledwhole_k39_whole_lots_of_hours
set_option Elab.async false
set_option linter.all false
set_option maxRecDepth 100000
/-! values as trees, an evaluator's answers, the heap held against them -/
namespace EV
open PySem PySem.Spec PyProof.Rows L2

/-- a value as a tree; hnd: the law's own drawing hand -/
inductive D where
  | non | bl (b : Bool) | int (i : Int) | str (x : Str) | tup (xs : List D) | lst (xs : List D) | hnd | dic
/-- an answer: a value, a draw below n, nothing told -/
inductive R (α : Type) where
  | ok (a : α) | dr (n : Nat) (k : Nat → R α) | bad
namespace R
variable {α β : Type}
def bind : R α → (α → R β) → R β
  | .ok a, f => f a
  | .dr n k, f => .dr n fun d => bind (k d) f
  | .bad, _ => .bad
def all : R α → (α → Prop) → Prop
  | .ok a, p => p a
  | .dr n k, p => ∀ d, d < n → all (k d) p
  | .bad, _ => False
def allb : R α → (α → Bool) → Bool
  | .ok a, p => p a
  | .dr n k, p => (List.range n).all fun d => allb (k d) p
  | .bad, _ => false
theorem all_bind {p : β → Prop} {f : α → R β} : ∀ {x : R α}, (bind x f).all p → x.all fun a => (f a).all p
  | .ok _, h => h
  | .dr _ _, h => fun d hd => all_bind (h d hd)
  | .bad, h => h
theorem bind_all {p : β → Prop} {f : α → R β} : ∀ {x : R α}, (x.all fun a => (f a).all p) → (bind x f).all p
  | .ok _, h => h
  | .dr _ _, h => fun d hd => bind_all (h d hd)
  | .bad, h => h
theorem all_mono {p q : α → Prop} (h : ∀ a, p a → q a) : ∀ {x : R α}, x.all p → x.all q
  | .ok _, g => h _ g
  | .dr _ _, g => fun d hd => all_mono h (g d hd)
  | .bad, g => g
theorem all_of {p : α → Bool} {q : α → Prop} (h : ∀ a, p a = true → q a) : ∀ {x : R α}, x.allb p = true → x.all q
  | .ok _, g => h _ g
  | .dr n k, g => fun d hd => by
    unfold allb at g
    exact all_of h (List.all_eq_true.mp g d (List.mem_range.mpr hd))
  | .bad, g => nomatch (show false = true from g)
end R
def strOkB (x : Str) : Bool := PyData.strOk x
/-- the slots -/
abbrev AS := List (Option D)

mutual
/-- d is read at v, off no list of F -/
inductive Sh (K : PySem.W.Frag) (H : Hp) (F : Addr → Prop) : V → D → Prop
  | non : Sh K H F .non .non
  | bl (b : Bool) : Sh K H F (.bl b) (.bl b)
  | int (i : Int) : Sh K H F (.int i) (.int i)
  | str (x : Str) : strOkB x = true → Sh K H F (.str x) (.str x)
  | tup {a : Addr} {vs : List V} {ds : List D} : SqT K H a vs → Shs K H F vs ds → Sh K H F (.ref a) (.tup ds)
  | lst {a : Addr} {vs : List V} {ds : List D} : Rd H a (.lst vs) → ¬ F a → Shs K H F vs ds → Sh K H F (.ref a) (.lst ds)
  | dic {a : Addr} {kvs : List (Key × V)} : Rd H a (.dK kvs) → Sh K H F (.ref a) .dic
inductive Shs (K : PySem.W.Frag) (H : Hp) (F : Addr → Prop) : List V → List D → Prop
  | nil : Shs K H F [] []
  | cons {v : V} {vs : List V} {d : D} {ds : List D} : Sh K H F v d → Shs K H F vs ds → Shs K H F (v :: vs) (d :: ds)
end
section
variable {K : PySem.W.Frag} {H H' : Hp} {F F' : Addr → Prop}
mutual
theorem Sh.step (hr : ∀ a u, Rd H a u → (∀ xs, u = .lst xs → ¬ F a) → Rd H' a u) (hf : ∀ a xs, Rd H a (.lst xs) → F' a → F a) : ∀ {v : V} {d : D}, Sh K H F v d → Sh K H' F' v d
  | _, _, .non => .non
  | _, _, .bl b => .bl b
  | _, _, .int i => .int i
  | _, _, .str x h => .str x h
  | _, _, .tup h hs => .tup (h.elim (fun q => .inl (hr _ _ q fun xs e => nomatch e)) fun q => .inr q) (Shs.step hr hf hs)
  | _, _, .lst h n hs => .lst (hr _ _ h fun _ _ => n) (fun z => n (hf _ _ h z)) (Shs.step hr hf hs)
  | _, _, .dic h => .dic (hr _ _ h fun _ e => nomatch e)
theorem Shs.step (hr : ∀ a u, Rd H a u → (∀ xs, u = .lst xs → ¬ F a) → Rd H' a u) (hf : ∀ a xs, Rd H a (.lst xs) → F' a → F a) : ∀ {vs : List V} {ds : List D}, Shs K H F vs ds → Shs K H' F' vs ds
  | _, _, .nil => .nil
  | _, _, .cons h hs => .cons (Sh.step hr hf h) (Shs.step hr hf hs)
end
theorem Sh.mono (hf : ∀ a, F' a → F a) {v : V} {d : D} (h : Sh K H F v d) : Sh K H F' v d := h.step (fun _ _ r _ => r) fun a _ _ => hf a
theorem Shs.mono (hf : ∀ a, F' a → F a) {v : List V} {d : List D} (h : Shs K H F v d) : Shs K H F' v d := h.step (fun _ _ r _ => r) fun a _ _ => hf a
theorem Shs.length : ∀ {vs : List V} {ds : List D}, Shs K H F vs ds → vs.length = ds.length
  | _, _, .nil => rfl
  | _, _, .cons _ hs => congrArg (· + 1) (Shs.length hs)
theorem Shs.get : ∀ {vs : List V} {ds : List D} {i : Nat} {d : D}, Shs K H F vs ds → ds[i]? = some d → ∃ v, vs[i]? = some v ∧ Sh K H F v d
  | _, _, _, _, .nil, e => by simp at e
  | _, _, 0, _, .cons h _, e => by simp at e; subst e; exact ⟨_, rfl, h⟩
  | _, _, i + 1, d, .cons _ hs, e => by
    obtain ⟨v, h1, h2⟩ := Shs.get (i := i) (d := d) hs (by simpa using e)
    exact ⟨v, by simpa using h1, h2⟩
theorem Shs.getV : ∀ {vs : List V} {ds : List D} {i : Nat} {v : V}, Shs K H F vs ds → vs[i]? = some v → ∃ d, ds[i]? = some d ∧ Sh K H F v d
  | _, _, _, _, .nil, e => by simp at e
  | _, _, 0, _, .cons h _, e => by simp at e; subst e; exact ⟨_, rfl, h⟩
  | _, _, i + 1, v, .cons _ hs, e => by
    obtain ⟨d, h1, h2⟩ := Shs.getV (i := i) (v := v) hs (by simpa using e)
    exact ⟨d, by simpa using h1, h2⟩
theorem Shs.append : ∀ {vs ws : List V} {ds es : List D}, Shs K H F vs ds → Shs K H F ws es → Shs K H F (vs ++ ws) (ds ++ es)
  | _, _, _, _, .nil, h => h
  | _, _, _, _, .cons h hs, g => .cons h (Shs.append hs g)
theorem Shs.take : ∀ {vs : List V} {ds : List D} (n : Nat), Shs K H F vs ds → Shs K H F (vs.take n) (ds.take n)
  | _, _, 0, _ => .nil
  | _, _, _ + 1, .nil => .nil
  | _, _, n + 1, .cons h hs => .cons h (Shs.take n hs)
theorem Shs.drop : ∀ {vs : List V} {ds : List D} (n : Nat), Shs K H F vs ds → Shs K H F (vs.drop n) (ds.drop n)
  | _, _, 0, h => h
  | _, _, _ + 1, .nil => .nil
  | _, _, n + 1, .cons _ hs => Shs.drop n hs
theorem Shs.rev {vs : List V} {ds : List D} (h : Shs K H F vs ds) : Shs K H F vs.reverse ds.reverse := by
  induction ds generalizing vs with
  | nil => cases h; exact .nil
  | cons d ds ih =>
    cases h with
    | cons h1 h2 =>
      rw [List.reverse_cons, List.reverse_cons]
      exact (ih h2).append (.cons h1 .nil)
theorem Shs.set : ∀ {vs : List V} {ds : List D} {v : V} {d : D} (n : Nat), Shs K H F vs ds → Sh K H F v d → Shs K H F (vs.set n v) (ds.set n d)
  | _, _, _, _, _, .nil, _ => .nil
  | _, _, _, _, 0, .cons _ hs, h => .cons h hs
  | _, _, _, _, n + 1, .cons g hs, h => .cons g (Shs.set n hs h)
end
/-- .. or the hand -/
def ShR (K : PySem.W.Frag) (hd : Option Addr) (H : Hp) (F : Addr → Prop) (v : V) (d : D) : Prop := Sh K H F v d ∨ (d = .hnd ∧ ∃ a, v = .ref a ∧ hd = some a)
inductive ShRs (K : PySem.W.Frag) (hd : Option Addr) (H : Hp) (F : Addr → Prop) : List V → List D → Prop
  | nil : ShRs K hd H F [] []
  | cons {v : V} {vs : List V} {d : D} {ds : List D} : ShR K hd H F v d → ShRs K hd H F vs ds → ShRs K hd H F (v :: vs) (d :: ds)
theorem ShR.mono {K : PySem.W.Frag} {hd : Option Addr} {H : Hp} {F F' : Addr → Prop} (hf : ∀ a, F' a → F a) {v : V} {d : D} (h : ShR K hd H F v d) : ShR K hd H F' v d := h.elim (fun q => .inl (q.mono hf)) .inr
/-- the drawing hand: a list of the cells' list and four ints -/
def HandI (hd : Option Addr) (hc : Addr) (B : Addr → Prop) (H : Hp) : Prop := ∀ a, hd = some a → (B a ∧ B hc ∧ hc ≠ a) ∧ ∃ (i l m n : Int) (cs : List Int), H a = some (.lst [.ref hc, .int i, .int l, .int m, .int n]) ∧ H hc = some (.lst (cs.map V.int)) ∧
  0 ≤ i ∧ 0 ≤ l ∧ 0 ≤ m ∧ 0 ≤ n ∧ ∀ x ∈ cs, 0 ≤ x
/-- what stands through a def's run: the text's own objects, the hand, what the callers own; which slots own their lists -/
structure Cn where
  K : PySem.W.Frag
  hd : Option Addr
  hc : Addr
  B : Addr → Prop
  kd : Nat → Bool
def Cn.F (G : Cn) (O : Addr → Prop) : Addr → Prop := fun a => G.B a ∨ O a
/-- a list that is owned -/
def OwC (G : Cn) (H : Hp) (O : Addr → Prop) (a : Addr) (d : D) : Prop := O a ∧ ∃ ds vs, d = .lst ds ∧ H a = some (.lst vs) ∧ Shs G.K H (G.F O) vs ds
/-- what a slot holds: an owned list, or a value that is read -/
def SlotR (G : Cn) (k : Bool) (H : Hp) (O : Addr → Prop) (v : V) (d : D) : Prop := match k with
  | true => ∃ a, v = .ref a ∧ OwC G H O a d
  | false => ShR G.K G.hd H (G.F O) v d
structure SR (G : Cn) (st : AS) (σ : L2.St) (H : Hp) (O : Addr → Prop) : Prop where
  len : st.length = σ.length
  val : ∀ i d, st[i]? = some (some d) → ∃ v, σ[i]? = some (some v) ∧ SlotR G (G.kd i) H O v d
  ap : ∀ i j d d' a, i ≠ j → G.kd i = true → G.kd j = true → st[i]? = some (some d) → st[j]? = some (some d') → σ[i]? = some (some (.ref a)) → σ[j]? = some (some (.ref a)) → False
  tr : ∀ a, G.F O a → ∃ xs, H a = some (.lst xs)
  bo : ∀ a, G.B a → ¬ O a
  hn : HandI G.hd G.hc G.B H
/-- all but the hand is kept -/
def Keep (hd : Option Addr) (H H' : Hp) : Prop := ∀ a o, H a = some o → hd ≠ some a → H' a = some o
/-- a step: what is not owned is kept; a pure one keeps all -/
structure Stp (pu : Bool) (hd : Option Addr) (O : Addr → Prop) (H : Hp) (O' : Addr → Prop) (H' : Hp) : Prop where
  pr : ∀ a o, H a = some o → (pu = true ∨ ¬ O a) → hd ≠ some a → H' a = some o
  nw : ∀ a, O' a → O a ∨ H a = none
theorem Stp.refl {pu : Bool} {hd : Option Addr} {O : Addr → Prop} {H : Hp} : Stp pu hd O H O H := ⟨fun _ _ e _ _ => e, fun _ h => .inl h⟩
theorem Stp.trans {pu : Bool} {hd : Option Addr} {O O1 O2 : Addr → Prop} {H H1 H2 : Hp} (a : Stp pu hd O H O1 H1) (b : Stp pu hd O1 H1 O2 H2) (hh : ∀ x, hd = some x → ¬ O2 x) : Stp pu hd O H O2 H2 where
  pr := fun x o e h n => b.pr x o (a.pr x o e h n) (h.elim (fun p => .inl p) fun q => .inr fun z => (a.nw x z).elim q fun z => by rw [e] at z; cases z) n
  nw := fun x h => by
    rcases b.nw x h with q | q
    · exact a.nw x q
    · cases e : H x with
      | none => exact .inr rfl
      | some o =>
        by_cases ho : O x
        · exact .inl ho
        · have := a.pr x o e (.inr ho) fun z => hh x z h
          rw [q] at this; cases this
theorem Stp.weak {pu : Bool} {hd : Option Addr} {O O1 : Addr → Prop} {H H1 : Hp} (a : Stp pu hd O H O1 H1) : Stp false hd O H O1 H1 :=
  ⟨fun x o e h n => a.pr x o e (h.elim (fun z => nomatch z) .inr) n, a.nw⟩
section
variable {G : Cn} {st st' : AS} {σ σ' : L2.St} {H H' : Hp} {O O' : Addr → Prop} {pu : Bool}
theorem SR.hO (S : SR G st σ H O) : ∀ x, G.hd = some x → ¬ O x := fun x e => S.bo x (S.hn x e).1.1
theorem SR.hF (S : SR G st σ H O) : ∀ x, G.hd = some x → G.F O x := fun x e => .inl (S.hn x e).1.1
theorem SR.stp (S : SR G st σ H O) (p : Stp pu G.hd O H O' H') : (∀ a u, Rd H a u → (∀ xs, u = .lst xs → ¬ G.F O a) → Rd H' a u) ∧ (∀ a xs, Rd H a (.lst xs) → G.F O' a → G.F O a) := by
  have key : ∀ a o, H a = some o → ¬ G.F O a → H' a = some o := fun a o e n => p.pr a o e (.inr fun z => n (.inr z)) fun z => n (S.hF a z)
  have nf : ∀ a u, Rd H a u → (∀ xs, u = .lst xs → ¬ G.F O a) → ¬ G.F O a := fun a u r q z => by
    obtain ⟨xs, e⟩ := S.tr a z
    rcases r with r | ⟨o, r⟩
    · rw [e] at r; cases r; exact q xs rfl z
    · rw [e] at r; cases r
  refine ⟨fun a u r q => ?_, fun a xs r z => ?_⟩
  · have n := nf a u r q
    rcases r with r | ⟨o, r⟩
    · exact .inl (key a _ r n)
    · exact .inr ⟨o, key a _ r n⟩
  · rcases z with z | z
    · exact .inl z
    · rcases p.nw a z with z | z
      · exact .inr z
      · rcases r with r | ⟨o, r⟩ <;> rw [z] at r <;> cases r
/-- a reading is carried over a step -/
theorem SR.car0 (S : SR G st σ H O) (p : Stp pu G.hd O H O' H') {v : V} {d : D} (h : Sh G.K H (G.F O) v d) : Sh G.K H' (G.F O') v d := h.step (S.stp p).1 (S.stp p).2
theorem SR.cars0 (S : SR G st σ H O) (p : Stp pu G.hd O H O' H') {v : List V} {d : List D} (h : Shs G.K H (G.F O) v d) : Shs G.K H' (G.F O') v d := h.step (S.stp p).1 (S.stp p).2
theorem SR.car (S : SR G st σ H O) (p : Stp pu G.hd O H O' H') {v : V} {d : D} (h : ShR G.K G.hd H (G.F O) v d) : ShR G.K G.hd H' (G.F O') v d := h.elim (fun q => .inl (S.car0 p q)) .inr
theorem SR.cars (S : SR G st σ H O) (p : Stp pu G.hd O H O' H') : ∀ {v : List V} {d : List D}, ShRs G.K G.hd H (G.F O) v d → ShRs G.K G.hd H' (G.F O') v d
  | _, _, .nil => .nil
  | _, _, .cons h hs => .cons (S.car p h) (S.cars p hs)
end
inductive Kd where | sh | ow | br
/-- what an expression hands on: shared, owned (fresh), or lent for the moment -/
def VR (G : Cn) (k : Kd) (st : AS) (σ : L2.St) (H : Hp) (O : Addr → Prop) (v : V) (d : D) : Prop := match k with
  | .sh => ShR G.K G.hd H (G.F O) v d
  | .br => ShR G.K G.hd H (G.F O) v d ∨ ∃ a ds vs, v = .ref a ∧ d = .lst ds ∧ ¬ G.B a ∧ Rd H a (.lst vs) ∧ Shs G.K H (G.F O) vs ds
  | .ow => ∃ a, v = .ref a ∧ OwC G H O a d ∧ ∀ i d', G.kd i = true → st[i]? = some (some d') → σ[i]? ≠ some (some (.ref a))
/-- an expression's reading -/
def T (G : Cn) (k : Kd) (pu : Bool) (m : AS → R (D × AS)) : TE := fun σ H Q => ∃ st O, SR G st σ H O ∧ (m st).all fun p => ∀ v H' O', Stp pu G.hd O H O' H' → SR G p.2 σ H' O' → VR G k p.2 σ H' O' v p.1 → Q v H'
/-- a test's -/
def TB (G : Cn) (pu : Bool) (m : AS → R (Bool × AS)) : TT := fun σ H Q => ∃ st O, SR G st σ H O ∧ (m st).all fun p => ∀ H' O', Stp pu G.hd O H O' H' → SR G p.2 σ H' O' → Q p.1 H'
/-- an argument list's -/
def TL (G : Cn) (pu : Bool) (m : AS → R (List D × AS)) : TA := fun σ H Q => ∃ st O, SR G st σ H O ∧ (m st).all fun p => ∀ vs H' O', Stp pu G.hd O H O' H' → SR G p.2 σ H' O' → ShRs G.K G.hd H' (G.F O') vs p.1 → Q vs H'
theorem PE.weak {X : Cx} {e : Expr} {t t' : TE} (h : PE X e t) (w : ∀ σ H Q, t' σ H Q → t σ H Q) : PE X e t' := ⟨fun pins s σ H Q I q => h.run pins s σ H Q I (w σ H Q q)⟩
theorem PT.weak {X : Cx} {e : Expr} {t t' : TT} (h : PT X e t) (w : ∀ σ H Q, t' σ H Q → t σ H Q) : PT X e t' := ⟨fun pins s σ H Q I q => h.run pins s σ H Q I (w σ H Q q)⟩
theorem PA.weak {X : Cx} {e : List Expr} {t t' : TA} (h : PA X e t) (w : ∀ σ H Q, t' σ H Q → t σ H Q) : PA X e t' := ⟨fun pos pins s σ H Q I q => h.run pos pins s σ H Q I (w σ H Q q)⟩
theorem PS.weak {X : Cx} {e : Stmt} {t t' : TS} (h : PS X e t) (w : ∀ D σ H, t' D σ H → t D σ H) : PS X e t' := ⟨fun pins s σ H D I q => h.run pins s σ H D I (w D σ H q)⟩
theorem PSs.weak {X : Cx} {e : List Stmt} {t t' : TS} (h : PSs X e t) (w : ∀ D σ H, t' D σ H → t D σ H) : PSs X e t' := ⟨fun pins s σ H D I q => h.run pins s σ H D I (w D σ H q)⟩
section
variable {G : Cn} {st st' : AS} {σ σ' : L2.St} {H H' : Hp} {O O' : Addr → Prop} {pu : Bool} {v : V} {d : D}
/-- a list that is owned is given up -/
theorem SR.give (S : SR G st σ H O) {a : Addr} (h : ∀ (i : Nat) (d' : D), G.kd i = true → st[i]? = some (some d') → σ[i]? ≠ some (some (.ref a))) : SR G st σ H (fun b => O b ∧ b ≠ a) where
  len := S.len
  val := fun i d e => by
    obtain ⟨v, e1, q⟩ := S.val i d e
    refine ⟨v, e1, ?_⟩
    cases hk : G.kd i with
    | true =>
      rw [hk] at q
      obtain ⟨b, rfl, ho, ds, vs, e2, e3, e4⟩ := q
      exact ⟨b, rfl, ⟨ho, fun z => h i d hk e (by rw [e1, z])⟩, ds, vs, e2, e3, e4.mono fun c z => z.elim .inl fun z => .inr z.1⟩
    | false =>
      rw [hk] at q
      exact ShR.mono (fun c z => z.elim .inl fun z => .inr z.1) q
  ap := S.ap
  tr := fun b z => S.tr b (z.elim .inl fun z => .inr z.1)
  bo := fun b hb z => S.bo b hb z.1
  hn := S.hn
theorem Stp.give {a : Addr} (p : Stp pu G.hd O H O' H') : Stp pu G.hd O H (fun b => O' b ∧ b ≠ a) H' := ⟨p.pr, fun b z => p.nw b z.1⟩
theorem T.sh_of_ow {X : Cx} {e : Expr} {m : AS → R (D × AS)} (h : PE X e (T G .ow pu m)) : PE X e (T G .sh pu m) := PE.weak h fun σ H Q q => by
  obtain ⟨st, O, S, q⟩ := q
  refine ⟨st, O, S, R.all_mono (fun p q v H' O' sp S' vr => ?_) q⟩
  obtain ⟨a, rfl, ⟨ho, ds, vs, e1, e2, e3⟩, hn⟩ := vr
  refine q _ H' (fun b => O' b ∧ b ≠ a) sp.give (S'.give hn) ?_
  show ShR _ _ _ _ _ _
  rw [e1]
  exact .inl (.lst (.inl e2) (fun z => z.elim (fun z => S'.bo a z ho) fun z => z.2 rfl) (e3.mono fun c z => z.elim .inl fun z => .inr z.1))
theorem T.br_of_sh {X : Cx} {e : Expr} {m : AS → R (D × AS)} (h : PE X e (T G .sh pu m)) : PE X e (T G .br pu m) := PE.weak h fun σ H Q q => by
  obtain ⟨st, O, S, q⟩ := q
  exact ⟨st, O, S, R.all_mono (fun p q v H' O' sp S' vr => q v H' O' sp S' (.inl vr)) q⟩
theorem T.any_pu {X : Cx} {e : Expr} {k : Kd} {m : AS → R (D × AS)} (h : PE X e (T G k true m)) : PE X e (T G k pu m) := PE.weak h fun σ H Q q => by
  obtain ⟨st, O, S, q⟩ := q
  refine ⟨st, O, S, R.all_mono (fun p q v H' O' sp S' vr => q v H' O' ?_ S' vr) q⟩
  exact ⟨fun a o e _ n => sp.pr a o e (.inl rfl) n, sp.nw⟩
end
end EV
/-! slots stored and forgotten, new objects -/
namespace EV
open PySem PySem.Spec PyProof.Rows L2
def getS : AS → Nat → Option D
  | [], _ => none
  | x :: _, 0 => x
  | _ :: r, n + 1 => getS r n
theorem getS_some : ∀ {st : AS} {i : Nat} {d : D}, getS st i = some d → st[i]? = some (some d)
  | [], _, _, h => nomatch h
  | x :: _, 0, _, h => by simpa [getS] using h
  | _ :: r, n + 1, d, h => by simpa using getS_some (st := r) (i := n) (d := d) h
section
variable {G : Cn} {st st' : AS} {σ σ' : L2.St} {H H' : Hp} {O O' : Addr → Prop} {pu : Bool} {v : V} {d : D} {i : Nat} {a : Addr}
theorem set_some {α : Type} {l : List (Option α)} {i j : Nat} {x : Option α} {y : α} (h : (l.set i x)[j]? = some (some y)) : (i = j ∧ x = some y ∧ i < l.length) ∨ (i ≠ j ∧ l[j]? = some (some y)) := by
  by_cases e : i = j
  · subst e
    by_cases hl : i < l.length
    · rw [List.getElem?_set_self hl] at h
      exact .inl ⟨rfl, Option.some.inj h, hl⟩
    · rw [List.getElem?_eq_none (by simpa using hl)] at h
      cases h
  · rw [List.getElem?_set_ne e] at h
    exact .inr ⟨e, h⟩
theorem SR.putS (S : SR G st σ H O) (hk : G.kd i = false) (h : ShR G.K G.hd H (G.F O) v d) : SR G (st.set i (some d)) (σ.set i (some v)) H O where
  len := by simpa using S.len
  val := fun j d' e => by
    rcases set_some e with ⟨rfl, e1, hl⟩ | ⟨ne, e1⟩
    · cases e1
      refine ⟨v, List.getElem?_set_self (S.len ▸ hl), ?_⟩
      rw [hk]
      exact h
    · rw [List.getElem?_set_ne ne]
      exact S.val j d' e1
  ap := fun j k d1 d2 b ne hj hk' e1 e2 e3 e4 => by
    rcases set_some e1 with ⟨rfl, _, _⟩ | ⟨n1, e1⟩
    · rw [hk] at hj; cases hj
    · rcases set_some e2 with ⟨rfl, _, _⟩ | ⟨n2, e2⟩
      · rw [hk] at hk'; cases hk'
      · rw [List.getElem?_set_ne n1] at e3
        rw [List.getElem?_set_ne n2] at e4
        exact S.ap j k d1 d2 b ne hj hk' e1 e2 e3 e4
  tr := S.tr
  bo := S.bo
  hn := S.hn
theorem SR.putO (S : SR G st σ H O) (hk : G.kd i = true) (h : OwC G H O a d) (fr : ∀ (j : Nat) (d' : D), j ≠ i → G.kd j = true → st[j]? = some (some d') → σ[j]? ≠ some (some (.ref a))) : SR G (st.set i (some d)) (σ.set i (some (.ref a))) H O where
  len := by simpa using S.len
  val := fun j d' e => by
    rcases set_some e with ⟨rfl, e1, hl⟩ | ⟨ne, e1⟩
    · cases e1
      refine ⟨.ref a, List.getElem?_set_self (S.len ▸ hl), ?_⟩
      rw [hk]
      exact ⟨a, rfl, h⟩
    · rw [List.getElem?_set_ne ne]
      exact S.val j d' e1
  ap := fun j k d1 d2 b ne hj hk' e1 e2 e3 e4 => by
    rcases set_some e1 with ⟨rfl, _, hl⟩ | ⟨n1, e1⟩
    · rcases set_some e2 with ⟨rfl, _, _⟩ | ⟨n2, e2⟩
      · exact ne rfl
      · rw [List.getElem?_set_self (S.len ▸ hl)] at e3
        rw [List.getElem?_set_ne n2] at e4
        cases e3
        exact fr k d2 (Ne.symm n2) hk' e2 e4
    · rcases set_some e2 with ⟨rfl, _, hl⟩ | ⟨n2, e2⟩
      · rw [List.getElem?_set_self (S.len ▸ hl)] at e4
        rw [List.getElem?_set_ne n1] at e3
        cases e4
        exact fr j d1 (Ne.symm n1) hj e1 e3
      · rw [List.getElem?_set_ne n1] at e3
        rw [List.getElem?_set_ne n2] at e4
        exact S.ap j k d1 d2 b ne hj hk' e1 e2 e3 e4
  tr := S.tr
  bo := S.bo
  hn := S.hn
/-- what is told is less -/
theorem SR.less (S : SR G st σ H O) (hl : st'.length = σ'.length) (h : ∀ (j : Nat) (d' : D), st'[j]? = some (some d') → st[j]? = some (some d') ∧ σ'[j]? = σ[j]?) : SR G st' σ' H O where
  len := hl
  val := fun j d' e => by
    obtain ⟨e1, e2⟩ := h j d' e
    rw [e2]
    exact S.val j d' e1
  ap := fun j k d1 d2 b ne hj hk e1 e2 e3 e4 => by
    obtain ⟨f1, f2⟩ := h j d1 e1
    obtain ⟨g1, g2⟩ := h k d2 e2
    rw [f2] at e3
    rw [g2] at e4
    exact S.ap j k d1 d2 b ne hj hk f1 g1 e3 e4
  tr := S.tr
  bo := S.bo
  hn := S.hn
theorem SR.kill (S : SR G st σ H O) : SR G (st.set i none) σ H O := S.less (by simpa using S.len) fun j d' e => by
  rcases set_some e with ⟨_, e1, _⟩ | ⟨ne, e1⟩
  · cases e1
  · exact ⟨e1, rfl⟩
theorem SR.kill2 (S : SR G st σ H O) {x : Option V} : SR G (st.set i none) (σ.set i x) H O := S.less (by simpa using S.len) fun j d' e => by
  rcases set_some e with ⟨_, e1, _⟩ | ⟨ne, e1⟩
  · cases e1
  · exact ⟨e1, List.getElem?_set_ne ne⟩
def wipeA (st : AS) : List Nat → AS
  | [] => st
  | v :: vs => (wipeA st vs).set v none
theorem SR.wipe (S : SR G st σ H O) : ∀ vs : List Nat, SR G (wipeA st vs) (L2.wipe σ vs) H O
  | [] => S
  | _ :: vs => (S.wipe vs).kill2
/-- the heap goes on, the slots stay -/
theorem SR.goes (S : SR G st σ H O) (p : Stp true G.hd O H O' H') (tr : ∀ a, O' a → ∃ xs, H' a = some (.lst xs)) (bo : ∀ a, G.B a → ¬ O' a) (oo : ∀ a, O a → O' a) (hn : HandI G.hd G.hc G.B H') : SR G st σ H' O' where
  len := S.len
  val := fun j d' e => by
    obtain ⟨v, e1, q⟩ := S.val j d' e
    refine ⟨v, e1, ?_⟩
    cases hk : G.kd j with
    | true =>
      rw [hk] at q
      obtain ⟨b, rfl, ho, ds, vs, e2, e3, e4⟩ := q
      exact ⟨b, rfl, oo b ho, ds, vs, e2, p.pr b _ e3 (.inl rfl) (fun z => S.hO b z ho), S.cars0 p e4⟩
    | false =>
      rw [hk] at q
      exact S.car p q
  ap := S.ap
  tr := fun b z => by
    rcases z with z | z
    · by_cases hb : G.hd = some b
      · obtain ⟨_, _, _, _, _, _, e, _⟩ := hn b hb
        exact ⟨_, e⟩
      · obtain ⟨xs, e⟩ := S.tr b (.inl z)
        exact ⟨xs, p.pr b _ e (.inl rfl) hb⟩
    · exact tr b z
  bo := bo
  hn := hn
theorem HandI.keep {hd : Option Addr} {hc : Addr} {B : Addr → Prop} (h : HandI hd hc B H) (k : ∀ a o, H a = some o → H' a = some o) : HandI hd hc B H' := fun a e => by
  obtain ⟨b, i, l, m, n, cs, h3, h4, h5⟩ := h a e
  exact ⟨b, i, l, m, n, cs, k _ _ h3, k _ _ h4, h5⟩
/-- a new object -/
theorem upd_keep {p : Addr} {o : HO} (hp : H p = none) : ∀ a u, H a = some u → upd H p o a = some u := fun a u e => by
  rw [upd_ne (ne_of_none e hp)]
  exact e
theorem Stp.new {p : Addr} {o : HO} {hd : Option Addr} (hp : H p = none) : Stp true hd O H O (upd H p o) := ⟨fun a u e _ _ => upd_keep hp a u e, fun a z => .inl z⟩
theorem SR.new (S : SR G st σ H O) {p : Addr} {o : HO} (hp : H p = none) : SR G st σ (upd H p o) O := S.goes (Stp.new hp)
  (fun a z => by
    obtain ⟨xs, e⟩ := S.tr a (.inr z)
    exact ⟨xs, upd_keep hp a _ e⟩) S.bo (fun _ z => z) (S.hn.keep (upd_keep hp))
theorem Stp.newL {p : Addr} {o : HO} {hd : Option Addr} (hp : H p = none) : Stp true hd O H (fun b => O b ∨ b = p) (upd H p o) := ⟨fun a u e _ _ => upd_keep hp a u e, fun a z => z.elim .inl fun e => .inr (e ▸ hp)⟩
theorem SR.newL (S : SR G st σ H O) {p : Addr} {vs : List V} (hp : H p = none) : SR G st σ (upd H p (.lst vs)) (fun b => O b ∨ b = p) := S.goes (Stp.newL hp)
  (fun a z => by
    rcases z with z | z
    · obtain ⟨xs, e⟩ := S.tr a (.inr z)
      exact ⟨xs, upd_keep hp a _ e⟩
    · exact ⟨vs, by rw [z]; exact upd_same⟩)
  (fun a hb z => z.elim (S.bo a hb) fun e => by
    obtain ⟨xs, q⟩ := S.tr a (.inl hb)
    rw [e, hp] at q
    cases q)
  (fun _ z => .inl z) (S.hn.keep (upd_keep hp))
/-- a new list is owned by nobody's slot -/
theorem SR.fresh (S : SR G st σ H O) {p : Addr} (hp : H p = none) : ∀ i d', G.kd i = true → st[i]? = some (some d') → σ[i]? ≠ some (some (.ref p)) := fun i d' hk e z => by
  obtain ⟨v, e1, q⟩ := S.val i d' e
  rw [hk] at q
  obtain ⟨b, rfl, ho, _⟩ := q
  rw [z] at e1
  cases e1
  obtain ⟨xs, q⟩ := S.tr _ (.inr ho)
  rw [hp] at q
  cases q
/-- the end of a rule that makes a new list -/
theorem end_lst (S : SR G st σ H O) {p : Addr} {vs : List V} {ds : List D} (hp : H p = none) (h : Shs G.K H (G.F O) vs ds) :
    Stp true G.hd O H (fun b => O b ∨ b = p) (upd H p (.lst vs)) ∧ SR G st σ (upd H p (.lst vs)) (fun b => O b ∨ b = p) ∧ VR G .ow st σ (upd H p (.lst vs)) (fun b => O b ∨ b = p) (.ref p) (.lst ds) :=
  ⟨Stp.newL hp, S.newL hp, p, rfl, ⟨.inr rfl, ds, vs, rfl, upd_same, S.cars0 (Stp.newL hp) h⟩, S.fresh hp⟩
theorem end_tup (S : SR G st σ H O) {p : Addr} {vs : List V} {ds : List D} (hp : H p = none) (h : Shs G.K H (G.F O) vs ds) :
    Stp true G.hd O H O (upd H p (.tup vs)) ∧ SR G st σ (upd H p (.tup vs)) O ∧ VR G .sh st σ (upd H p (.tup vs)) O (.ref p) (.tup ds) :=
  ⟨Stp.new hp, S.new hp, .inl (.tup (.inl (.inl upd_same)) (S.cars0 (Stp.new (o := .tup vs) hp) h))⟩
/-- what is lent is carried over a pure step -/
theorem SR.carB (S : SR G st σ H O) (p : Stp true G.hd O H O' H') (h : VR G .br st σ H O v d) : VR G .br st' σ' H' O' v d := by
  rcases h with h | ⟨b, ds, vs, e1, e2, e3, e4, e5⟩
  · exact .inl (S.car p h)
  · refine .inr ⟨b, ds, vs, e1, e2, e3, ?_, S.cars0 p e5⟩
    rcases e4 with e4 | ⟨o, e4⟩
    · exact .inl (p.pr b _ e4 (.inl rfl) fun z => e3 (S.hn b z).1.1)
    · exact .inr ⟨o, p.pr b _ e4 (.inl rfl) fun z => e3 (S.hn b z).1.1⟩
/-! readings of kinds -/
theorem VR.int {n : Int} (h : VR G .br st σ H O v (.int n)) : v = .int n := by
  rcases h with (h | ⟨e, _⟩) | ⟨_, _, _, _, e, _⟩
  · cases h; rfl
  · cases e
  · cases e
theorem VR.bl {b : Bool} (h : VR G .br st σ H O v (.bl b)) : v = .bl b := by
  rcases h with (h | ⟨e, _⟩) | ⟨_, _, _, _, e, _⟩
  · cases h; rfl
  · cases e
  · cases e
theorem VR.non (h : VR G .br st σ H O v .non) : v = .non := by
  rcases h with (h | ⟨e, _⟩) | ⟨_, _, _, _, e, _⟩
  · cases h; rfl
  · cases e
  · cases e
theorem VR.str {x : Str} (h : VR G .br st σ H O v (.str x)) : v = .str x ∧ strOkB x = true := by
  rcases h with (h | ⟨e, _⟩) | ⟨_, _, _, _, e, _⟩
  · cases h; exact ⟨rfl, by assumption⟩
  · cases e
  · cases e
theorem VR.tup {ds : List D} (h : VR G .br st σ H O v (.tup ds)) : ∃ a vs, v = .ref a ∧ SqT G.K H a vs ∧ Shs G.K H (G.F O) vs ds := by
  rcases h with (h | ⟨e, _⟩) | ⟨_, _, _, _, e, _⟩
  · cases h; exact ⟨_, _, rfl, by assumption, by assumption⟩
  · cases e
  · cases e
theorem VR.lst {ds : List D} (h : VR G .br st σ H O v (.lst ds)) : ∃ a vs, v = .ref a ∧ Rd H a (.lst vs) ∧ Shs G.K H (G.F O) vs ds := by
  rcases h with (h | ⟨e, _⟩) | ⟨_, _, _, e1, e, _, e4, e5⟩
  · cases h; exact ⟨_, _, rfl, by assumption, by assumption⟩
  · cases e
  · cases e; exact ⟨_, _, e1, e4, e5⟩
end
end EV
/-! expressions -/
namespace EV
open PySem PySem.Spec PyProof.Rows L2
abbrev ME := AS → R (D × AS)
def mK (d : D) : ME := fun st => .ok (d, st)
def mV (i : Nat) : ME := fun st => match getS st i with | some d => .ok (d, st) | none => .bad
def mM (i : Nat) : ME := fun st => match getS st i with | some d => .ok (d, st.set i none) | none => .bad
def m1 (op : D → Option D) (m : ME) : ME := fun st => (m st).bind fun p => match op p.1 with | some d => .ok (d, p.2) | none => .bad
def m2 (op : D → D → Option D) (m n : ME) : ME := fun st => (m st).bind fun p => (n p.2).bind fun q => match op p.1 q.1 with | some d => .ok (d, q.2) | none => .bad
section
variable {X : Cx} {G : Cn} {k : Kd} {pu : Bool}
theorem e_k {e : Expr} {v : V} {d : D} (h : PE X e (tC v)) (hs : ∀ H O, ShR G.K G.hd H (G.F O) v d) : PE X e (T G .sh true (mK d)) := PE.weak h fun σ H Q q => by
  obtain ⟨st, O, S, q⟩ := q
  exact q v H O Stp.refl S (hs H O)
theorem w_v {i : Nat} (hk : G.kd i = false) (σ : L2.St) (H : Hp) (Q : VK) (q : T G .sh true (mV i) σ H Q) : tVar i σ H Q := by
  obtain ⟨st, O, S, q⟩ := q
  unfold mV at q
  cases e : getS st i with
  | none => rw [e] at q; exact q.elim
  | some d =>
    rw [e] at q
    obtain ⟨v, e1, r⟩ := S.val i d (getS_some e)
    rw [hk] at r
    exact ⟨v, e1, q v H O Stp.refl S r⟩
theorem w_b {i : Nat} (hk : G.kd i = true) (σ : L2.St) (H : Hp) (Q : VK) (q : T G .br true (mV i) σ H Q) : tVar i σ H Q := by
  obtain ⟨st, O, S, q⟩ := q
  unfold mV at q
  cases e : getS st i with
  | none => rw [e] at q; exact q.elim
  | some d =>
    rw [e] at q
    obtain ⟨v, e1, r⟩ := S.val i d (getS_some e)
    rw [hk] at r
    obtain ⟨a, rfl, ho, ds, vs, e2, e3, e4⟩ := r
    exact ⟨_, e1, q _ H O Stp.refl S (.inr ⟨a, ds, vs, rfl, e2, fun z => S.bo a z ho, .inl e3, e4⟩)⟩
theorem w_m {i : Nat} (hk : G.kd i = true) (σ : L2.St) (H : Hp) (Q : VK) (q : T G .ow true (mM i) σ H Q) : tVar i σ H Q := by
  obtain ⟨st, O, S, q⟩ := q
  unfold mM at q
  cases e : getS st i with
  | none => rw [e] at q; exact q.elim
  | some d =>
    rw [e] at q
    obtain ⟨v, e1, r⟩ := S.val i d (getS_some e)
    rw [hk] at r
    obtain ⟨a, rfl, r⟩ := r
    refine ⟨_, e1, q _ H O Stp.refl S.kill ⟨a, rfl, r, fun j d' hj e2 e3 => ?_⟩⟩
    rcases set_some e2 with ⟨_, z, _⟩ | ⟨ne, e2⟩
    · cases z
    · exact S.ap i j d d' a ne hk hj (getS_some e) e2 e1 e3
/-! one and two operands -/
def U1 (G : Cn) (k : Kd) (op : D → Option D) (r : V → Hp → VK → Prop) : Prop := ∀ {st : AS} {σ : L2.St} {H : Hp} {O : Addr → Prop} {v : V} {d d' : D} {Q : VK}, SR G st σ H O → VR G .br st σ H O v d → op d = some d' →
  (∀ v' H' O', Stp true G.hd O H O' H' → SR G st σ H' O' → VR G k st σ H' O' v' d' → Q v' H') → r v H Q
def U2 (G : Cn) (k : Kd) (op : D → D → Option D) (r : R2) : Prop := ∀ {st : AS} {σ : L2.St} {H : Hp} {O : Addr → Prop} {v w : V} {d e d' : D} {Q : VK}, SR G st σ H O → VR G .br st σ H O v d → VR G .br st σ H O w e → op d e = some d' →
  (∀ v' H' O', Stp true G.hd O H O' H' → SR G st σ H' O' → VR G k st σ H' O' v' d' → Q v' H') → r v w H Q
theorem w_1 {op : D → Option D} {r : V → Hp → VK → Prop} {m : ME} (hu : U1 G k op r) (σ : L2.St) (H : Hp) (Q : VK) (q : T G k true (m1 op m) σ H Q) : tUn r (T G .br true m) σ H Q := by
  obtain ⟨st, O, S, q⟩ := q
  refine ⟨st, O, S, R.all_mono (fun p q v H1 O1 s1 S1 r1 => ?_) (R.all_bind q)⟩
  cases e : op p.1 with
  | none => rw [e] at q; exact q.elim
  | some d =>
    rw [e] at q
    exact hu S1 r1 e fun v' H' O' s2 S2 r2 => q v' H' O' (s1.trans s2 S2.hO) S2 r2
theorem w_2 {op : D → D → Option D} {r : R2} {m n : ME} (hu : U2 G k op r) (σ : L2.St) (H : Hp) (Q : VK) (q : T G k true (m2 op m n) σ H Q) : tOp r (T G .br true m) (T G .br true n) σ H Q := by
  obtain ⟨st, O, S, q⟩ := q
  refine ⟨st, O, S, R.all_mono (fun p q v H1 O1 s1 S1 r1 => ?_) (R.all_bind q)⟩
  refine ⟨p.2, O1, S1, R.all_mono (fun p2 q w H2 O2 s2 S2 r2 => ?_) (R.all_bind q)⟩
  cases e : op p.1 p2.1 with
  | none => rw [e] at q; exact q.elim
  | some d =>
    rw [e] at q
    exact hu S2 (S1.carB s2 r1) r2 e fun v' H' O' s3 S3 r3 => q v' H' O' ((s1.trans s2 S2.hO).trans s3 S3.hO) S3 r3
end
/-! ints -/
def oI (f : Int → Int → Option D) : D → D → Option D
  | .int i, .int j => f i j
  | _, _ => none
section
variable {X : Cx} {G : Cn}
theorem u_I {f : Int → Int → Option D} {C : Int → Int → Prop} {g : Int → Int → V} (h : ∀ i j d, f i j = some d → C i j ∧ ∀ H O, ShR G.K G.hd H (G.F O) (g i j) d) : U2 G .sh (oI f) (rI C g) := by
  intro st σ H O v w d e d' Q S hv hw ho q
  cases d with
  | int i =>
    cases e with
    | int j =>
      obtain ⟨c, r⟩ := h i j d' ho
      exact ⟨i, j, hv.int, hw.int, c, q _ H O Stp.refl S (r H O)⟩
    | _ => cases ho
  | _ => cases ho
theorem u_I0 {f : Int → Int → Option D} {g : Int → Int → V} (h : ∀ i j d, f i j = some d → ∀ H O, ShR G.K G.hd H (G.F O) (g i j) d) : U2 G .sh (oI f) (rI0 g) := by
  intro st σ H O v w d e d' Q S hv hw ho q
  cases d with
  | int i =>
    cases e with
    | int j => exact ⟨i, j, hv.int, hw.int, q _ H O Stp.refl S (h i j d' ho H O)⟩
    | _ => cases ho
  | _ => cases ho
theorem U2.or_l {k : Kd} {op : D → D → Option D} {r r' : R2} (h : U2 G k op r) : U2 G k op (fun x y H Q => r x y H Q ∨ r' x y H Q) := fun S a b c q => .inl (h S a b c q)
theorem U2.or_r {k : Kd} {op : D → D → Option D} {r r' : R2} (h : U2 G k op r') : U2 G k op (fun x y H Q => r x y H Q ∨ r' x y H Q) := fun S a b c q => .inr (h S a b c q)
def okB (b : Bool) : D → Option D := fun d => match b with | true => some d | false => none
def oSub : D → D → Option D := oI fun i j => some (.int (i - j))
def small64B (i : Int) : Bool := decide (-(2 ^ 64) < i) && decide (i < 2 ^ 64)
def oMul : D → D → Option D := oI fun i j => if small64B i || small64B j then some (.int (i * j)) else none
def divB (j : Int) : Bool := decide (j ≠ 0) && decide (j.natAbs < 1073741824)
def oDiv : D → D → Option D := oI fun i j => if divB j then some (.int (i.fdiv j)) else none
def oMod : D → D → Option D := oI fun i j => if decide (j ≠ 0) then some (.int (i.fmod j)) else none
theorem u_sub : U2 G .sh oSub (rI0 fun i j => .int (i - j)) := u_I0 fun i j d e H O => by cases e; exact .inl (.int _)
theorem u_mul : U2 G .sh oMul (rI CMul fun i j => .int (i * j)) := u_I fun i j d e => by
  split at e
  · rename_i h
    cases e
    refine ⟨?_, fun H O => .inl (.int _)⟩
    simpa [small64B, CMul] using h
  · cases e
theorem u_div : U2 G .sh oDiv (rI CDivN fun i j => .int (i.fdiv j)) := u_I fun i j d e => by
  split at e
  · rename_i h
    cases e
    refine ⟨?_, fun H O => .inl (.int _)⟩
    simpa [divB, CDivN] using h
  · cases e
theorem u_mod : U2 G .sh oMod (rI (fun _ j => j ≠ 0) fun i j => .int (i.fmod j)) := u_I fun i j d e => by
  split at e
  · rename_i h
    cases e
    exact ⟨of_decide_eq_true h, fun H O => .inl (.int _)⟩
  · cases e
def oCmp (p : Int → Int → Bool) : D → D → Option D := oI fun i j => some (.bl (p i j))
theorem u_cmp {p : Int → Int → Bool} : U2 G .sh (oCmp p) (rI0 fun i j => .bl (p i j)) := u_I0 fun i j d e H O => by cases e; exact .inl (.bl _)
/-! + of ints, tuples, texts -/
def lenOk (n : Nat) : Bool := Nat.ble n 16000000
theorem lenOk_le {n : Nat} (h : lenOk n = true) : n < sizeLine := by
  have : n ≤ 16000000 := Nat.le_of_ble_eq_true h
  rw [sizeLine_eq]; omega
def oAdd : D → D → Option D
  | .int i, .int j => some (.int (i + j))
  | .tup xs, .tup ys => if lenOk (xs.length + ys.length) then some (.tup (xs ++ ys)) else none
  | .str x, .str y => if lenOk (x.length + y.length) && strOkB (x ++ y) then some (.str (x ++ y)) else none
  | _, _ => none
theorem u_add : U2 G .sh oAdd (fun x y H Q => rI0 (fun i j => .int (i + j)) x y H Q ∨ (rCatA G.K x y H Q ∨ ∃ i j, x = .str i ∧ y = .str j ∧ i.length + j.length ≤ sizeLine ∧ Q (.str (i ++ j)) H)) := by
  intro st σ H O v w d e d' Q S hv hw ho q
  unfold oAdd at ho
  split at ho
  · cases ho
    exact .inl ⟨_, _, hv.int, hw.int, q _ H O Stp.refl S (.inl (.int _))⟩
  · split at ho
    · rename_i hl
      cases ho
      obtain ⟨a, vs, rfl, ha, hvs⟩ := hv.tup
      obtain ⟨b, ws, rfl, hb, hws⟩ := hw.tup
      have hz := Nat.le_of_lt (lenOk_le hl)
      refine .inr (.inl ⟨a, b, vs, ws, rfl, rfl, ha, hb, by rw [hvs.length, hws.length]; exact hz, fun e => ?_, fun ne e => ?_, fun n1 n2 p hp => ?_⟩)
      · subst e
        have := hvs.length
        cases hvs
        exact q _ H O Stp.refl S (.inl (.tup hb hws))
      · subst e
        cases hws
        rw [List.append_nil] at q
        exact q _ H O Stp.refl S (.inl (.tup ha hvs))
      · obtain ⟨s1, S1, r1⟩ := end_tup S hp (hvs.append hws)
        exact q _ _ _ s1 S1 r1
    · cases ho
  · split at ho
    · rename_i hl
      cases ho
      obtain ⟨rfl, _⟩ := hv.str
      obtain ⟨rfl, _⟩ := hw.str
      rw [Bool.and_eq_true] at hl
      exact .inr (.inr ⟨_, _, rfl, rfl, Nat.le_of_lt (lenOk_le hl.1), q _ H O Stp.refl S (.inl (.str _ hl.2))⟩)
    · cases ho
  · cases ho
/-- xs + ys of lists: a new one -/
def oCat : D → D → Option D
  | .lst xs, .lst ys => if lenOk (xs.length + ys.length) then some (.lst (xs ++ ys)) else none
  | _, _ => none
/-! one operand -/
def oNeg : D → Option D
  | .int i => some (.int (-i))
  | _ => none
theorem u_neg : U1 G .sh oNeg (rU fun i => .int (-i)) := by
  intro st σ H O v d d' Q S hv ho q
  cases d with
  | int i => cases ho; exact ⟨i, hv.int, q _ H O Stp.refl S (.inl (.int _))⟩
  | _ => cases ho
def oLen : D → Option D
  | .lst xs => some (.int xs.length)
  | .tup xs => some (.int xs.length)
  | _ => none
theorem Rd.sql {K : PySem.W.Frag} {H : Hp} {a : Addr} {vs : List V} (h : Rd H a (.lst vs)) : SqL K H a vs := .inl h
theorem u_len : U1 G .sh oLen (fun x H Q => ∃ p ys, [x] = [.ref p] ∧ (SqL G.K H p ys ∨ SqT G.K H p ys) ∧ Q (.int ys.length) H) := by
  intro st σ H O v d d' Q S hv ho q
  cases d with
  | lst xs =>
    cases ho
    obtain ⟨a, vs, rfl, ha, hvs⟩ := hv.lst
    exact ⟨a, vs, rfl, .inl (Rd.sql ha), by rw [hvs.length]; exact q _ H O Stp.refl S (.inl (.int _))⟩
  | tup xs =>
    cases ho
    obtain ⟨a, vs, rfl, ha, hvs⟩ := hv.tup
    exact ⟨a, vs, rfl, .inr ha, by rw [hvs.length]; exact q _ H O Stp.refl S (.inl (.int _))⟩
  | _ => cases ho
def ints? : List D → Option (List Int)
  | [] => some []
  | .int i :: r => match ints? r with | some l => some (i :: l) | none => none
  | _ => none
theorem ints_of {K : PySem.W.Frag} {H : Hp} {F : Addr → Prop} : ∀ {vs : List V} {ds : List D} {ns : List Int}, ints? ds = some ns → Shs K H F vs ds → vs = ns.map V.int
  | _, [], _, e, h => by cases h; cases e; rfl
  | _, d :: r, _, e, h => by
    cases h with
    | cons h1 h2 =>
      cases d with
      | int i =>
        unfold ints? at e
        split at e
        · rename_i l hl
          cases e
          cases h1
          rw [ints_of hl h2] <;> rfl
        · cases e
      | _ => cases e
def bls? : List D → Option (List Bool)
  | [] => some []
  | .bl i :: r => match bls? r with | some l => some (i :: l) | none => none
  | _ => none
theorem bls_of {K : PySem.W.Frag} {H : Hp} {F : Addr → Prop} : ∀ {vs : List V} {ds : List D} {ns : List Bool}, bls? ds = some ns → Shs K H F vs ds → vs = ns.map V.bl
  | _, [], _, e, h => by cases h; cases e; rfl
  | _, d :: r, _, e, h => by
    cases h with
    | cons h1 h2 =>
      cases d with
      | bl i =>
        unfold bls? at e
        split at e
        · rename_i l hl
          cases e
          cases h1
          rw [bls_of hl h2] <;> rfl
        · cases e
      | _ => cases e
def sumI : List Int → Int
  | [] => 0
  | x :: r => x + sumI r
theorem sumI_eq : ∀ l : List Int, l.sum = sumI l
  | [] => rfl
  | x :: r => by rw [List.sum_cons, sumI_eq r]; rfl
def oAll : D → Option D
  | .lst xs => (bls? xs).map fun l => .bl (l.all id)
  | _ => none
def oAny : D → Option D
  | .lst xs => (bls? xs).map fun l => .bl (l.any id)
  | _ => none
theorem u_all : U1 G .sh oAll (fun x H Q => rAll G.K [x] H Q) := by
  intro st σ H O v d d' Q S hv ho q
  cases d with
  | lst xs =>
    obtain ⟨l, hl, rfl⟩ := Option.map_eq_some_iff.mp ho
    obtain ⟨a, vs, rfl, ha, hvs⟩ := hv.lst
    exact ⟨a, l, rfl, by rw [← bls_of hl hvs]; exact Rd.sql ha, q _ H O Stp.refl S (.inl (.bl _))⟩
  | _ => cases ho
theorem u_any : U1 G .sh oAny (fun x H Q => rAny G.K [x] H Q) := by
  intro st σ H O v d d' Q S hv ho q
  cases d with
  | lst xs =>
    obtain ⟨l, hl, rfl⟩ := Option.map_eq_some_iff.mp ho
    obtain ⟨a, vs, rfl, ha, hvs⟩ := hv.lst
    exact ⟨a, l, rfl, by rw [← bls_of hl hvs]; exact Rd.sql ha, q _ H O Stp.refl S (.inl (.bl _))⟩
  | _ => cases ho
def oSum : D → Option D
  | .lst xs => (ints? xs).map fun l => .int (sumI l)
  | .tup xs => (ints? xs).map fun l => .int (sumI l)
  | _ => none
def rSum2 (K : PySem.W.Frag) : List V → Hp → VK → Prop := fun vs H Q => ∃ (a : Addr) (ns : List Int), vs = [V.ref a] ∧ (SqL K H a (ns.map V.int) ∨ SqT K H a (ns.map V.int)) ∧ Q (.int ns.sum) H
theorem u_sum : U1 G .sh oSum (fun x H Q => rSum2 G.K [x] H Q) := by
  intro st σ H O v d d' Q S hv ho q
  cases d with
  | lst xs =>
    obtain ⟨l, hl, rfl⟩ := Option.map_eq_some_iff.mp ho
    obtain ⟨a, vs, rfl, ha, hvs⟩ := hv.lst
    exact ⟨a, l, rfl, by rw [← ints_of hl hvs]; exact .inl (Rd.sql ha), by rw [sumI_eq]; exact q _ H O Stp.refl S (.inl (.int _))⟩
  | tup xs =>
    obtain ⟨l, hl, rfl⟩ := Option.map_eq_some_iff.mp ho
    obtain ⟨a, vs, rfl, ha, hvs⟩ := hv.tup
    exact ⟨a, l, rfl, by rw [← ints_of hl hvs]; exact .inr ha, by rw [sumI_eq]; exact q _ H O Stp.refl S (.inl (.int _))⟩
  | _ => cases ho
def oTuple : D → Option D
  | .lst xs => some (.tup xs)
  | .tup xs => some (.tup xs)
  | _ => none
theorem u_tuple : U1 G .sh oTuple (fun x H Q => ∃ p ys, [x] = [V.ref p] ∧ ((SqL G.K H p ys ∧ ∀ (l : Addr), H l = none → Q (V.ref l) (upd H l (HO.tup ys))) ∨ SqT G.K H p ys ∧ Q (V.ref p) H)) := by
  intro st σ H O v d d' Q S hv ho q
  cases d with
  | lst xs =>
    cases ho
    obtain ⟨a, vs, rfl, ha, hvs⟩ := hv.lst
    refine ⟨a, vs, rfl, .inl ⟨Rd.sql ha, fun l hl => ?_⟩⟩
    obtain ⟨s1, S1, r1⟩ := end_tup S hl hvs
    exact q _ _ _ s1 S1 r1
  | tup xs =>
    cases ho
    obtain ⟨a, vs, rfl, ha, hvs⟩ := hv.tup
    exact ⟨a, vs, rfl, .inr ⟨ha, q _ H O Stp.refl S (.inl (.tup ha hvs))⟩⟩
  | _ => cases ho
def oList : D → Option D
  | .lst xs => some (.lst xs)
  | .tup xs => some (.lst xs)
  | _ => none
theorem u_list : U1 G .ow oList (fun x H Q => ∃ p ys, [x] = [V.ref p] ∧ (SqL G.K H p ys ∨ SqT G.K H p ys) ∧ ∀ (l : Addr), H l = none → Q (V.ref l) (upd H l (HO.lst ys))) := by
  intro st σ H O v d d' Q S hv ho q
  cases d with
  | lst xs =>
    cases ho
    obtain ⟨a, vs, rfl, ha, hvs⟩ := hv.lst
    refine ⟨a, vs, rfl, .inl (Rd.sql ha), fun l hl => ?_⟩
    obtain ⟨s1, S1, r1⟩ := end_lst S hl hvs
    exact q _ _ _ s1 S1 r1
  | tup xs =>
    cases ho
    obtain ⟨a, vs, rfl, ha, hvs⟩ := hv.tup
    refine ⟨a, vs, rfl, .inr ha, fun l hl => ?_⟩
    obtain ⟨s1, S1, r1⟩ := end_lst S hl hvs
    exact q _ _ _ s1 S1 r1
  | _ => cases ho
def oInt : D → Option D
  | .int i => some (.int i)
  | .bl b => some (.int (if b then 1 else 0))
  | _ => none
theorem u_int : U1 G .sh oInt (fun x H Q => (∃ i, [x] = [V.int i] ∧ Q (.int i) H) ∨ ∃ k, [x] = [V.bl k] ∧ Q (.int (if k then 1 else 0)) H) := by
  intro st σ H O v d d' Q S hv ho q
  cases d with
  | int i => cases ho; exact .inl ⟨i, by rw [hv.int], q _ H O Stp.refl S (.inl (.int _))⟩
  | bl b => cases ho; exact .inr ⟨b, by rw [hv.bl], q _ H O Stp.refl S (.inl (.int _))⟩
  | _ => cases ho
def oAbs : D → Option D
  | .int i => some (.int (if i < 0 then -i else i))
  | _ => none
theorem u_abs : U1 G .sh oAbs (fun x H Q => ∃ i, [x] = [V.int i] ∧ Q (.int (if i < 0 then -i else i)) H) := by
  intro st σ H O v d d' Q S hv ho q
  cases d with
  | int i => cases ho; exact ⟨i, by rw [hv.int], q _ H O Stp.refl S (.inl (.int _))⟩
  | _ => cases ho
/-! items -/
def ixD (xs : List D) (i : Int) : Option D := match i with
  | .ofNat n => xs[n]?
  | .negSucc n => if n < xs.length then xs[xs.length - 1 - n]? else none
def oIx : D → D → Option D
  | .lst xs, .int i => ixD xs i
  | .tup xs, .int i => ixD xs i
  | _, _ => none
end
end EV
/-! deep data: ==, in; sums of tuples -/
namespace EV
open PySem PySem.Spec PyProof.Rows L2
mutual
def toP : D → PyData
  | .non => .none
  | .bl b => .bool b
  | .int i => .int i
  | .str x => .str x
  | .tup xs => .tuple (toPs xs)
  | .lst xs => .list (toPs xs)
  | .hnd => .none
  | .dic => .none
def toPs : List D → List PyData
  | [] => []
  | x :: xs => toP x :: toPs xs
end
theorem toPs_map : ∀ xs : List D, toPs xs = xs.map toP
  | [] => by rw [toPs]; rfl
  | x :: xs => by rw [toPs, toPs_map xs]; rfl
/-- less deep than n, no hand in it -/
def dok : Nat → D → Bool
  | 0, _ => false
  | n + 1, d => match d with
    | .tup xs => xs.all (dok n)
    | .lst xs => xs.all (dok n)
    | .hnd => false
    | .dic => false
    | _ => true
def eqs (f : D → D → Bool) : List D → List D → Bool
  | [], ys => match ys with | [] => true | _ => false
  | x :: xs, ys => match ys with | [] => false | y :: ys => match f x y with | true => eqs f xs ys | false => false
def eqf : Nat → D → D → Bool
  | 0, _, _ => false
  | n + 1, a, b => match a with
    | .int i => match b with
      | .int j => decide (i = j)
      | .bl c => decide (i = if c then 1 else 0)
      | _ => false
    | .tup xs => match b with
      | .tup ys => eqs (eqf n) xs ys
      | _ => false
    | .lst xs => match b with
      | .lst ys => eqs (eqf n) xs ys
      | _ => false
    | .non => match b with
      | .non => true
      | _ => false
    | .bl c => match b with
      | .bl e => c == e
      | .int j => decide ((if c then 1 else 0) = j)
      | _ => false
    | .str x => match b with
      | .str y => x == y
      | _ => false
    | .hnd => false
    | .dic => false
/-- no hand within, no dict -/
inductive Pl : D → Prop
  | non : Pl .non
  | bl (b : Bool) : Pl (.bl b)
  | int (i : Int) : Pl (.int i)
  | str (x : Str) : Pl (.str x)
  | tup {xs : List D} : (∀ x ∈ xs, Pl x) → Pl (.tup xs)
  | lst {xs : List D} : (∀ x ∈ xs, Pl x) → Pl (.lst xs)
mutual
theorem Sh.lay {K : PySem.W.Frag} {H : Hp} {F : Addr → Prop} : ∀ {v : V} {d : D}, Sh K H F v d → Pl d → (toP d).canLay0 = true
  | _, _, .non, _ => by simp [toP, PyData.canLay0]
  | _, _, .bl _, _ => by simp [toP, PyData.canLay0]
  | _, _, .int _, _ => by simp [toP, PyData.canLay0]
  | _, _, .str x h, _ => by rw [toP, PyData.canLay0]; exact h
  | _, _, .tup _ hs, .tup p => by rw [toP, PyData.canLay0]; exact Shs.lay hs p
  | _, _, .lst _ _ hs, .lst p => by rw [toP, PyData.canLay0]; exact Shs.lay hs p
  | _, .dic, .dic _, p => nomatch p
theorem Shs.lay {K : PySem.W.Frag} {H : Hp} {F : Addr → Prop} : ∀ {v : List V} {d : List D}, Shs K H F v d → (∀ x ∈ d, Pl x) → PyData.canLayAll0 (toPs d) = true
  | _, _, .nil, _ => by simp [toPs, PyData.canLayAll0]
  | _, _, .cons h hs, p => by rw [toPs, PyData.canLayAll0, Sh.lay h (p _ (by simp)), Shs.lay hs fun x hx => p x (by simp [hx])]; rfl
end
mutual
theorem Sh.dp {K : PySem.W.Frag} {H : Hp} {F : Addr → Prop} : ∀ {v : V} {d : D}, Sh K H F v d → Pl d → Dp K H v (toP d)
  | _, _, .non, _ => by rw [toP]; exact .non
  | _, _, .bl _, _ => by rw [toP]; exact .bl _
  | _, _, .int _, _ => by rw [toP]; exact .int _
  | _, _, .str x h, _ => by rw [toP]; exact .str _
  | _, _, .tup h hs, .tup p => by rw [toP]; exact .tup h (Shs.dp hs p)
  | _, _, .lst h _ hs, .lst p => by rw [toP]; exact .lst (.inl h) (Shs.dp hs p)
  | _, .dic, .dic _, p => nomatch p
theorem Shs.dp {K : PySem.W.Frag} {H : Hp} {F : Addr → Prop} : ∀ {v : List V} {d : List D}, Shs K H F v d → (∀ x ∈ d, Pl x) → DpAll K H v (toPs d)
  | _, _, .nil, _ => by rw [toPs]; exact .nil
  | _, _, .cons h hs, p => by rw [toPs]; exact .cons (Sh.dp h (p _ (by simp))) (Shs.dp hs fun x hx => p x (by simp [hx]))
end
/-- what is lent, if there is no hand and no dict in it -/
theorem VR.dp {G : Cn} {st : AS} {σ : L2.St} {H : Hp} {O : Addr → Prop} {v : V} {d : D} (h : VR G .br st σ H O v d) (hd : Pl d) : Dp G.K H v (toP d) ∧ (toP d).canLay0 = true := by
  rcases h with (h | ⟨e, _⟩) | ⟨a, ds, vs, rfl, rfl, _, e4, e5⟩
  · exact ⟨h.dp hd, h.lay hd⟩
  · subst e; cases hd
  · cases hd with
    | lst p =>
      rw [toP]
      exact ⟨.lst (.inl e4) (e5.dp p), by rw [PyData.canLay0]; exact e5.lay p⟩
theorem depthAll_le {n : Nat} : ∀ {xs : List PyData}, (∀ x ∈ xs, x.depth ≤ n) → PyData.depthAll xs ≤ n
  | [], _ => by rw [PyData.depthAll]; exact Nat.zero_le _
  | x :: xs, h => by
    rw [PyData.depthAll]
    exact Nat.max_le.mpr ⟨h x (by simp), depthAll_le (fun y hy => h y (by simp [hy]))⟩
theorem dok_depth : ∀ {n : Nat} {d : D}, dok n d = true → (toP d).depth ≤ n
  | 0, _, h => nomatch h
  | n + 1, d, h => by
    have all : ∀ xs : List D, xs.all (dok n) = true → PyData.depthAll (toPs xs) + 1 ≤ n + 1 := fun xs hx => by
      refine Nat.succ_le_succ (depthAll_le fun z hz => ?_)
      rw [toPs_map] at hz
      obtain ⟨w, hw, rfl⟩ := List.mem_map.mp hz
      exact dok_depth (List.all_eq_true.mp hx w hw)
    cases d with
    | tup xs => rw [toP, PyData.depth]; exact all xs h
    | lst xs => rw [toP, PyData.depth]; exact all xs h
    | hnd => cases h
    | dic => cases h
    | _ => rw [toP, PyData.depth] <;> omega
theorem dok_pl : ∀ {n : Nat} {d : D}, dok n d = true → Pl d
  | 0, _, h => nomatch h
  | n + 1, d, h => by
    cases d with
    | tup xs => exact .tup fun x hx => dok_pl (List.all_eq_true.mp (show xs.all (dok n) = true from h) x hx)
    | lst xs => exact .lst fun x hx => dok_pl (List.all_eq_true.mp (show xs.all (dok n) = true from h) x hx)
    | hnd => cases h
    | dic => cases h
    | non => exact .non
    | bl b => exact .bl b
    | int i => exact .int i
    | str x => exact .str x
theorem dok_ne {n : Nat} {d : D} (h : dok n d = true) : d ≠ .hnd := by
  rintro rfl
  cases n <;> cases h
theorem dec_int_eq (i j : Int) : decide (i = j) = (i == j) := by rw [Bool.beq_eq_decide_eq]
/-- the model's own == -/
theorem eqf_eqv : ∀ {n : Nat} {a b : D}, Pl a → Pl b → (dok n a = true ∨ dok n b = true) → eqf n a b = PyData.eqv (toP a) (toP b)
  | 0, _, _, _, _, h => h.elim (fun z => nomatch z) fun z => nomatch z
  | n + 1, a, b, pa, pb, h => by
    have go : ∀ xs ys : List D, (∀ x ∈ xs, Pl x) → (∀ x ∈ ys, Pl x) → (xs.all (dok n) = true ∨ ys.all (dok n) = true) → eqs (eqf n) xs ys = PyData.eqvAll (toPs xs) (toPs ys) := by
      intro xs
      induction xs with
      | nil => intro ys _ _ _; cases ys <;> simp [eqs, toPs, PyData.eqvAll]
      | cons x xs ih =>
        intro ys px py hh
        cases ys with
        | nil => simp [eqs, toPs, PyData.eqvAll]
        | cons y ys =>
          have e1 : eqf n x y = PyData.eqv (toP x) (toP y) := eqf_eqv (px x (by simp)) (py y (by simp)) (hh.imp (fun z => by rw [List.all_cons, Bool.and_eq_true] at z; exact z.1) fun z => by rw [List.all_cons, Bool.and_eq_true] at z; exact z.1)
          have e2 := ih ys (fun z hz => px z (by simp [hz])) (fun z hz => py z (by simp [hz])) (hh.imp (fun z => by rw [List.all_cons, Bool.and_eq_true] at z; exact z.2) fun z => by rw [List.all_cons, Bool.and_eq_true] at z; exact z.2)
          rw [toPs, toPs, PyData.eqvAll, ← e1, ← e2]
          show (match eqf n x y with | true => eqs (eqf n) xs ys | false => false) = _
          cases eqf n x y <;> rfl
    cases pa with
    | non => cases pb <;> simp [eqf, toP, PyData.eqv]
    | bl c => cases pb <;> simp [eqf, toP, PyData.eqv, dec_int_eq]
    | int i => cases pb <;> simp [eqf, toP, PyData.eqv, dec_int_eq]
    | str x => cases pb <;> simp [eqf, toP, PyData.eqv]
    | tup px =>
      cases pb with
      | tup py => rw [toP, toP, PyData.eqv]; exact go _ _ px py h
      | _ => simp [eqf, toP, PyData.eqv]
    | lst px =>
      cases pb with
      | lst py => rw [toP, toP, PyData.eqv]; exact go _ _ px py h
      | _ => simp [eqf, toP, PyData.eqv]
/-! ==, != -/
def isH : D → Bool
  | .hnd => true
  | _ => false
theorem isH_ne {d : D} (h : (!isH d) = true) : d ≠ .hnd := by
  rintro rfl
  cases h
/-- a tuple of anything, and one of nothing -/
def nilEq (f : Bool → Bool) (d e : D) : Option D := match d with
  | .tup xs => match e with
    | .tup ys => match ys with
      | [] => some (.bl (f xs.isEmpty))
      | _ => none
    | _ => none
  | _ => none
def slowEq (f : Bool → Bool) (d e : D) : Option D := if (!isH d) && (!isH e) && (dok 60 e && dok 60 d) then some (.bl (f (eqf 60 d e))) else nilEq f d e
def oEqF (f : Bool → Bool) (d e : D) : Option D := match d with
  | .int i => match e with
    | .int j => some (.bl (f (decide (i = j))))
    | _ => slowEq f d e
  | _ => slowEq f d e
def rEqE (K : PySem.W.Frag) (f : Bool → Bool) : R2 := fun x y H Q => (∃ d e, Dp K H x d ∧ Dp K H y e ∧ d.canLay0 = true ∧ e.canLay0 = true ∧ min d.depth e.depth ≤ 64 ∧ Q (.bl (f (PyData.eqv d e))) H) ∨
  ∃ a b vs, x = .ref a ∧ y = .ref b ∧ SqT K H a vs ∧ SqT K H b [] ∧ Q (.bl (f vs.isEmpty)) H
section
variable {X : Cx} {G : Cn}
theorem op_eqE (hu : X.A.units + 64 < cLine) : OpR X (compareOp .Eq) (rEqE X.K id) := by
  intro pins s σ H x y v u Q I rx ry h
  rcases h with ⟨d, e, hd, he, sd, se, hm, q⟩ | ⟨a, b, vs, rfl, rfl, ha, hb, q⟩
  · obtain ⟨as, r1⟩ := Dp.reads I d x v hd rx
    obtain ⟨bs, r2⟩ := Dp.reads I e y u he ry
    exact SeqAt.compareEq_reads r1 r2 sd se (by omega) ⟨.bl _, H, I, rfl, q⟩
  · obtain ⟨its, v1, ht1, _⟩ := I.tuple ha
    obtain ⟨its2, v2, ht2, _⟩ := I.tuple hb
    cases v2
    cases rx
    cases ry
    refine SeqAt.RcAt.tuples (e := fun _ => true) ht1 ht2 (by omega) (fun j _ h2 => absurd h2 (Nat.not_lt_zero _)) _ _ _ _ ⟨.bl _, H, I, rfl, ?_⟩
    have l := v1.length
    have : (id vs.isEmpty) = ((List.range (min its.toArray.size ([] : List Value).toArray.size)).all (fun _ => true) && its.toArray.size == ([] : List Value).toArray.size) := by
      cases v1 <;> simp
    rw [← this]
    exact q
theorem op_neE (hu : X.A.units + 64 < cLine) : OpR X (compareOp .NotEq) (rEqE X.K (fun b => !b)) := by
  intro pins s σ H x y v u Q I rx ry h
  rcases h with ⟨d, e, hd, he, sd, se, hm, q⟩ | ⟨a, b, vs, rfl, rfl, ha, hb, q⟩
  · obtain ⟨as, r1⟩ := Dp.reads I d x v hd rx
    obtain ⟨bs, r2⟩ := Dp.reads I e y u he ry
    exact SeqAt.compareNe_reads r1 r2 sd se (by omega) ⟨.bl _, H, I, rfl, q⟩
  · obtain ⟨its, v1, ht1, _⟩ := I.tuple ha
    obtain ⟨its2, v2, ht2, _⟩ := I.tuple hb
    cases v2
    cases rx
    cases ry
    refine SeqAt.RcNeAt.tuples (e := fun _ => true) ht1 ht2 (by omega) (fun j _ h2 => absurd h2 (Nat.not_lt_zero _)) _ _ _ _ ⟨.bl _, H, I, rfl, ?_⟩
    have l := v1.length
    have : (!vs.isEmpty) = (!((List.range (min its.toArray.size ([] : List Value).toArray.size)).all (fun _ => true) && its.toArray.size == ([] : List Value).toArray.size)) := by
      cases v1 <;> simp
    rw [← this]
    exact q
theorem eq_core {st : AS} {σ : L2.St} {H : Hp} {O : Addr → Prop} {v w : V} {d e : D} {f : Bool → Bool} {Q : VK} (S : SR G st σ H O) (hv : VR G .br st σ H O v d) (hw : VR G .br st σ H O w e) (h1 : d ≠ .hnd) (h2 : e ≠ .hnd) (hk : (dok 60 e && dok 60 d) = true)
    (q : ∀ v' H' O', Stp true G.hd O H O' H' → SR G st σ H' O' → VR G .sh st σ H' O' v' (.bl (f (eqf 60 d e))) → Q v' H') : rEqE G.K f v w H Q := by
  rw [Bool.and_eq_true] at hk
  obtain ⟨a1, a2⟩ := hv.dp (dok_pl hk.2)
  obtain ⟨b1, b2⟩ := hw.dp (dok_pl hk.1)
  refine .inl ⟨_, _, a1, b1, a2, b2, ?_, ?_⟩
  · have := dok_depth hk.1; omega
  · rw [← eqf_eqv (dok_pl hk.2) (dok_pl hk.1) (.inl hk.2)]
    exact q _ H O Stp.refl S (.inl (.bl _))
theorem int_core {st : AS} {σ : L2.St} {H : Hp} {O : Addr → Prop} {v w : V} {i j : Int} {f : Bool → Bool} {Q : VK} (S : SR G st σ H O) (hv : VR G .br st σ H O v (.int i)) (hw : VR G .br st σ H O w (.int j))
    (q : ∀ v' H' O', Stp true G.hd O H O' H' → SR G st σ H' O' → VR G .sh st σ H' O' v' (.bl (f (decide (i = j)))) → Q v' H') : rEqE G.K f v w H Q := by
  have e1 := hv.int
  have e2 := hw.int
  subst e1 e2
  refine .inl ⟨.int i, .int j, .int _, .int _, by simp [PyData.canLay0], by simp [PyData.canLay0], by simp [PyData.depth], ?_⟩
  have : PyData.eqv (.int i) (.int j) = decide (i = j) := by rw [dec_int_eq, PyData.eqv]
  rw [this]
  exact q _ H O Stp.refl S (.inl (.bl _))
theorem u_eqF {f : Bool → Bool} : U2 G .sh (oEqF f) (rEqE G.K f) := by
  intro st σ H O v w d e d' Q S hv hw ho q
  have slow : slowEq f d e = some d' → rEqE G.K f v w H Q := fun ho => by
    unfold slowEq at ho
    split at ho
    · rename_i hk
      cases ho
      rw [Bool.and_eq_true, Bool.and_eq_true] at hk
      exact eq_core S hv hw (isH_ne hk.1.1) (isH_ne hk.1.2) hk.2 q
    · unfold nilEq at ho
      split at ho
      · split at ho
        · split at ho
          · cases ho
            obtain ⟨a, vs, rfl, ha, sa⟩ := hv.tup
            obtain ⟨b, ws, rfl, hb, sb⟩ := hw.tup
            cases sb
            refine .inr ⟨a, b, vs, rfl, rfl, ha, hb, ?_⟩
            cases sa with
            | nil => exact q _ H O Stp.refl S (.inl (.bl _))
            | cons _ _ => exact q _ H O Stp.refl S (.inl (.bl _))
          · cases ho
        · cases ho
      · cases ho
  cases d with
  | int i =>
    cases e with
    | int j => cases ho; exact int_core S hv hw q
    | _ => exact slow ho
  | _ => exact slow ho
end
/-! in, not in -/
def memf (d : D) : List D → Bool
  | [] => false
  | x :: r => match eqf 60 x d with | true => true | false => memf d r
def oIn (f : Bool → Bool) (d e : D) : Option D := match e with
  | .lst xs => if dok 60 d && xs.all (dok 60) then some (.bl (f (memf d xs))) else none
  | .tup xs => if dok 60 d && xs.all (dok 60) then some (.bl (f (memf d xs))) else none
  | _ => none
def rInE (K : PySem.W.Frag) (f : Bool → Bool) : R2 := fun x y H Q => ∃ d ds, Dp K H x d ∧ (Dp K H y (.list ds) ∨ Dp K H y (.tuple ds)) ∧ d.canLay0 = true ∧ PyData.canLayAll0 ds = true ∧ d.depth ≤ 64 ∧ Q (.bl (f (ds.any fun z => PyData.eqv z d))) H
theorem memf_any {d : D} (pd : Pl d) (hk : dok 60 d = true) : ∀ {xs : List D}, (∀ x ∈ xs, Pl x) → memf d xs = (toPs xs).any fun z => PyData.eqv z (toP d)
  | [], _ => by rw [toPs]; rfl
  | x :: r, h => by
    rw [toPs, List.any_cons, ← memf_any pd hk (fun y hy => h y (by simp [hy])), ← eqf_eqv (h x (by simp)) pd (.inr hk)]
    show (match eqf 60 x d with | true => true | false => memf d r) = _
    cases eqf 60 x d <;> rfl
section
variable {X : Cx} {G : Cn}
theorem op_inE (hu : X.A.units + 70 < cLine) : OpR X (compareOp .In) (rInE X.K id) := by
  intro pins s σ H x y v u Q I rx ry h
  obtain ⟨d, ds, hd, he, sd, se, hm, q⟩ := h
  obtain ⟨as, r1⟩ := Dp.reads I d x v hd rx
  rcases he with he | he
  · obtain ⟨bs, r2⟩ := Dp.reads I (.list ds) y u he ry
    exact SeqAt.in_list_reads r2 r1 se sd (by omega) ⟨.bl _, H, I, rfl, q⟩
  · obtain ⟨bs, r2⟩ := Dp.reads I (.tuple ds) y u he ry
    exact SeqAt.in_tuple_reads r2 r1 se sd (by omega) ⟨.bl _, H, I, rfl, q⟩
theorem op_notInE (hu : X.A.units + 70 < cLine) : OpR X (compareOp .NotIn) (rInE X.K (fun b => !b)) := by
  intro pins s σ H x y v u Q I rx ry h
  obtain ⟨d, ds, hd, he, sd, se, hm, q⟩ := h
  obtain ⟨as, r1⟩ := Dp.reads I d x v hd rx
  rcases he with he | he
  · obtain ⟨bs, r2⟩ := Dp.reads I (.list ds) y u he ry
    exact SeqAt.notIn_list_reads r2 r1 se sd (by omega) ⟨.bl _, H, I, rfl, q⟩
  · obtain ⟨bs, r2⟩ := Dp.reads I (.tuple ds) y u he ry
    exact SeqAt.notIn_tuple_reads r2 r1 se sd (by omega) ⟨.bl _, H, I, rfl, q⟩
theorem u_in {f : Bool → Bool} : U2 G .sh (oIn f) (rInE G.K f) := by
  intro st σ H O v w d e d' Q S hv hw ho q
  have fin : ∀ xs : List D, ((∀ x ∈ xs, Pl x) → PyData.canLayAll0 (toPs xs) = true ∧ (Dp G.K H w (.list (toPs xs)) ∨ Dp G.K H w (.tuple (toPs xs)))) → (if dok 60 d && xs.all (dok 60) then some (D.bl (f (memf d xs))) else none) = some d' → rInE G.K f v w H Q := by
    intro xs hx ho
    split at ho
    · rename_i hk
      rw [Bool.and_eq_true] at hk
      obtain ⟨hk, hk2⟩ := hk
      have px : ∀ x ∈ xs, Pl x := fun x h => dok_pl (List.all_eq_true.mp hk2 x h)
      obtain ⟨lx, dx⟩ := hx px
      cases ho
      obtain ⟨a1, a2⟩ := hv.dp (dok_pl hk)
      refine ⟨_, _, a1, dx, a2, lx, Nat.le_trans (dok_depth hk) (by decide), ?_⟩
      rw [← memf_any (dok_pl hk) hk px]
      exact q _ H O Stp.refl S (.inl (.bl _))
    · cases ho
  cases e with
  | lst xs =>
    refine fin xs (fun px => ?_) ho
    obtain ⟨b1, b2⟩ := hw.dp (.lst px)
    rw [toP] at b1 b2
    rw [PyData.canLay0] at b2
    exact ⟨b2, .inl b1⟩
  | tup xs =>
    refine fin xs (fun px => ?_) ho
    obtain ⟨b1, b2⟩ := hw.dp (.tup px)
    rw [toP] at b1 b2
    rw [PyData.canLay0] at b2
    exact ⟨b2, .inr b1⟩
  | _ => cases ho
/-! is None, is True, is False -/
def oIsN (f : Bool → Bool) : D → Option D
  | .non => some (.bl (f true))
  | _ => some (.bl (f false))
theorem nonV {G : Cn} {st : AS} {σ : L2.St} {H : Hp} {O : Addr → Prop} {v : V} {d : D} (hv : VR G .br st σ H O v d) (hd : d ≠ .non) : decide (v = .non) = false := by
  refine decide_eq_false ?_
  rintro rfl
  rcases hv with (h | ⟨_, a, e, _⟩) | ⟨a, _, _, e, _⟩
  · cases h; exact hd rfl
  · cases e
  · cases e
theorem u_isN {f : Bool → Bool} : U1 G .sh (oIsN f) (fun x H Q => Q (.bl (f (decide (x = .non)))) H) := by
  intro st σ H O v d d' Q S hv ho q
  cases d with
  | non =>
    cases ho
    rw [hv.non]
    exact q _ H O Stp.refl S (.inl (.bl _))
  | _ =>
    cases ho
    rw [nonV hv (by intro z; cases z)]
    exact q _ H O Stp.refl S (.inl (.bl _))
/-! items -/
theorem ixD_atI {K : PySem.W.Frag} {H : Hp} {F : Addr → Prop} {vs : List V} {ds : List D} {i : Int} {d : D} (h : Shs K H F vs ds) (e : ixD ds i = some d) : ∃ v, atI vs i = some v ∧ Sh K H F v d := by
  cases i with
  | ofNat n =>
    obtain ⟨v, h1, h2⟩ := h.get (show ds[n]? = some d from e)
    refine ⟨v, ?_, h2⟩
    exact atI_nat h1
  | negSucc n =>
    have e : (if n < ds.length then ds[ds.length - 1 - n]? else none) = some d := e
    split at e
    · rename_i hl
      obtain ⟨v, h1, h2⟩ := h.get e
      refine ⟨v, ?_, h2⟩
      have hL := h.length
      have e1 : ixN vs.length (Int.negSucc n) = some (ds.length - 1 - n) := by
        unfold ixN
        rw [if_neg (by omega), if_pos (by omega)]
        congr 1
        omega
      unfold atI
      rw [e1]
      exact h1
    · cases e
theorem u_ix : U2 G .sh oIx (fun x y H Q => rIxL G.K x y H Q ∨ rIxT G.K x y H Q) := by
  intro st σ H O v w d e d' Q S hv hw ho q
  cases d with
  | lst xs =>
    cases e with
    | int i =>
      obtain ⟨a, vs, rfl, ha, hvs⟩ := hv.lst
      obtain ⟨x, h1, h2⟩ := ixD_atI hvs (show ixD xs i = some d' from ho)
      exact .inl ⟨a, vs, i, x, rfl, hw.int, Rd.sql ha, h1, q _ H O Stp.refl S (.inl h2)⟩
    | _ => cases ho
  | tup xs =>
    cases e with
    | int i =>
      obtain ⟨a, vs, rfl, ha, hvs⟩ := hv.tup
      obtain ⟨x, h1, h2⟩ := ixD_atI hvs (show ixD xs i = some d' from ho)
      exact .inr ⟨a, vs, i, x, rfl, hw.int, ha, h1, q _ H O Stp.refl S (.inl h2)⟩
    | _ => cases ho
  | _ => cases ho
/-! sum of a tuple too -/
theorem cr_sum2 (hc : X.calm = true) : CallR X (.builtin "sum") (rSum2 X.K) := by
  intro pins s σ H vs us Q I r h
  obtain ⟨a, ns, rfl, hs, q⟩ := h
  rcases hs with hs | hs
  · exact cr_sum hc pins s σ H _ us Q I r ⟨a, ns, rfl, hs, q⟩
  obtain ⟨its, rv, hl, _⟩ := I.tuple hs
  rw [Vals.ref1 r]
  have hi := rv.ints
  obtain ⟨xs, e⟩ := hi.allInts.items
  have hn : numsOf (intItems xs).toList = ns := by rw [← e]; exact hi.numsOf
  rw [nums_intItems] at hn
  have hT : s.heap.IsTuple a (intItems xs) := by rw [← e]; exact hl
  have hlt : a < s.heap.objs.size := hl.lt
  refine call_sum_walkG (wpAny_pyIter_tuple hT ?_)
  refine ⟨_, [s.heap.objs.size, a], [s.heap.objs.size], _, _, _, numAt xs, rfl, Walks.tuple (A := X.A.in1) (I.ok.hd hc) s.heap.objs.size a (Nat.ne_of_lt hlt) (intItems xs),
    ⟨⟨_, Heap.get?_push_size _ rfl, rfl, rfl⟩, hT.push _⟩, fun c hc' => ?_, fun _ _ => intItems_at, fun h' tk t' hk => ?_⟩
  · rw [Heap.size_push]
    rcases List.mem_cons.mp hc' with rfl | hc'
    · exact Nat.lt_succ_self _
    · rcases List.mem_cons.mp hc' with rfl | hc'
      · exact Nat.lt_succ_of_lt hlt
      · cases hc'
  · have hk' : ∀ b o, s.heap.get? b = some o → h'.get? b = some o := fun b o eb => hk b o (fun hm => by
      rcases List.mem_cons.mp hm with e1 | hm
      · exact absurd (e1 ▸ Heap.lt_size eb) (Nat.lt_irrefl _)
      · cases hm) (Heap.get?_push_of_some _ eb)
    have eS : preSum (numAt xs) (intItems xs).size = ns.sum := by
      rw [preSum_eq, List.take_of_length_le (by simp [intItems]), hn]
    rw [eS]
    exact ⟨.int _, H, I.kept hk', ⟨_, rfl⟩, q⟩
end
end EV
/-! sorted -/
namespace EV
open PySem PySem.Spec PyProof.Rows L2
/-! a sort by insertion is the model's own -/
section
variable {α : Type} {le : α → α → Bool}
def insR (gt : α → α → Bool) (d : α) : List α → List α
  | [] => [d]
  | x :: r => match gt d x with | true => x :: insR gt d r | false => d :: x :: r
def sortR (gt : α → α → Bool) : List α → List α
  | [] => []
  | x :: r => insR gt x (sortR gt r)
theorem mem_insR {gt : α → α → Bool} {d y : α} : ∀ {l : List α}, y ∈ insR gt d l ↔ y = d ∨ y ∈ l
  | [] => by simp [insR]
  | x :: r => by
    unfold insR
    cases gt d x with
    | true =>
      simp only [List.mem_cons, mem_insR (l := r)]
      constructor
      · rintro (h | h | h)
        · exact .inr (.inl h)
        · exact .inl h
        · exact .inr (.inr h)
      · rintro (h | h | h)
        · exact .inr (.inl h)
        · exact .inl h
        · exact .inr (.inr h)
    | false => simp only [List.mem_cons]
theorem mem_sortR {gt : α → α → Bool} {y : α} : ∀ {l : List α}, y ∈ sortR gt l ↔ y ∈ l
  | [] => by simp [sortR]
  | x :: r => by
    unfold sortR
    rw [mem_insR, mem_sortR (l := r), List.mem_cons]
theorem insR_len {gt : α → α → Bool} {d : α} : ∀ {l : List α}, (insR gt d l).length = l.length + 1
  | [] => rfl
  | x :: r => by
    unfold insR
    cases gt d x with
    | true => rw [List.length_cons, insR_len (l := r), List.length_cons]
    | false => rfl
theorem sortR_len {gt : α → α → Bool} : ∀ {l : List α}, (sortR gt l).length = l.length
  | [] => rfl
  | x :: r => by
    unfold sortR
    rw [insR_len, sortR_len (l := r), List.length_cons]
theorem insR_congr {gt gt' : α → α → Bool} {d : α} : ∀ {l : List α}, (∀ x ∈ l, gt d x = gt' d x) → insR gt d l = insR gt' d l
  | [], _ => rfl
  | x :: r, h => by
    unfold insR
    rw [h x (by simp), insR_congr (l := r) fun y hy => h y (by simp [hy])]
theorem sortR_congr {gt gt' : α → α → Bool} : ∀ {l : List α}, (∀ x ∈ l, ∀ y ∈ l, gt x y = gt' x y) → sortR gt l = sortR gt' l
  | [], _ => rfl
  | x :: r, h => by
    unfold sortR
    rw [sortR_congr (l := r) fun a ha b hb => h a (by simp [ha]) b (by simp [hb]), insR_congr (gt := gt) (gt' := gt') fun y hy => h x (by simp) y (by simp [mem_sortR.mp hy])]
theorem insR_sorted (T : W.TotalLe le) {d : α} : ∀ {l : List α}, l.Pairwise (fun a b => le a b = true) → (insR (fun a b => !le a b) d l).Pairwise (fun a b => le a b = true)
  | [], _ => by simp [insR]
  | x :: r, h => by
    have h' := List.pairwise_cons.mp h
    unfold insR
    cases e : (!le d x) with
    | true =>
      refine List.pairwise_cons.mpr ⟨fun y hy => ?_, insR_sorted T h'.2⟩
      rcases mem_insR.mp hy with rfl | hy
      · rcases T.total x y with q | q
        · exact q
        · rw [q] at e; cases e
      · exact h'.1 y hy
    | false =>
      have hdx : le d x = true := by simpa using e
      refine List.pairwise_cons.mpr ⟨fun y hy => ?_, h⟩
      rcases List.mem_cons.mp hy with rfl | hy
      · exact hdx
      · exact T.trans _ _ _ hdx (h'.1 y hy)
theorem insR_filter (T : W.TotalLe le) {d : α} (c : α) : ∀ {l : List α}, (insR (fun a b => !le a b) d l).filter (W.sameRank le c) = (d :: l).filter (W.sameRank le c)
  | [] => rfl
  | x :: r => by
    unfold insR
    cases e : (!le d x) with
    | true =>
      have hdx : le d x = false := by simpa using e
      rw [List.filter_cons, insR_filter T c (l := r)]
      cases hx : W.sameRank le c x with
      | false => simp [List.filter_cons, hx]
      | true =>
        have hd : W.sameRank le c d = false := by
          cases hd : W.sameRank le c d with
          | false => rfl
          | true =>
            unfold W.sameRank at hx hd
            rw [Bool.and_eq_true] at hx hd
            have := T.trans d c x hd.2 hx.1
            rw [hdx] at this
            cases this
        simp [List.filter_cons, hx, hd]
    | false => rfl
theorem sortR_eq (T : W.TotalLe le) (l : List α) : sortR (fun a b => !le a b) l = l.mergeSort le := by
  refine W.sort_unique T ?_ fun c => ?_
  · induction l with
    | nil => exact List.Pairwise.nil
    | cons x r ih => exact insR_sorted T ih
  · induction l with
    | nil => rfl
    | cons x r ih =>
      unfold sortR
      rw [insR_filter T c, List.filter_cons, List.filter_cons, ih]
end
/-! data that are alike -/
def isI : D → Bool | .int _ => true | _ => false
def isB : D → Bool | .bl _ => true | _ => false
def isS : D → Bool | .str _ => true | _ => false
def tups? : List D → Option (List (List D))
  | [] => some []
  | .tup xs :: r => (tups? r).map fun l => xs :: l
  | _ => none
def lsts? : List D → Option (List (List D))
  | [] => some []
  | .lst xs :: r => (lsts? r).map fun l => xs :: l
  | _ => none
def heads : List (List D) → List D
  | [] => []
  | [] :: r => heads r
  | (x :: _) :: r => x :: heads r
def tails : List (List D) → List (List D)
  | [] => []
  | [] :: r => tails r
  | (_ :: xs) :: r => xs :: tails r
def colsOk (f : List D → Bool) : Nat → List (List D) → Bool
  | 0, _ => false
  | m + 1, yss => match yss with
    | [] => true
    | _ => match f (heads yss) with | true => colsOk f m (tails yss) | false => false
def homog : Nat → List D → Bool
  | 0, _ => false
  | n + 1, xs => match xs with
    | [] => true
    | x :: _ => match x with
      | .int _ => xs.all isI
      | .bl _ => xs.all isB
      | .str _ => xs.all isS
      | .tup _ => match tups? xs with | some yss => colsOk (homog n) 100000 yss | none => false
      | .lst _ => match lsts? xs with | some yss => colsOk (homog n) 100000 yss | none => false
      | _ => false
theorem tups_mem : ∀ {xs : List D} {yss : List (List D)}, tups? xs = some yss → xs = yss.map D.tup
  | [], _, e => by cases e; rfl
  | d :: r, _, e => by
    cases d with
    | tup ys =>
      obtain ⟨l, h1, rfl⟩ := Option.map_eq_some_iff.mp (show (tups? r).map (fun l => ys :: l) = _ from e)
      rw [tups_mem h1]; rfl
    | _ => cases e
theorem lsts_mem : ∀ {xs : List D} {yss : List (List D)}, lsts? xs = some yss → xs = yss.map D.lst
  | [], _, e => by cases e; rfl
  | d :: r, _, e => by
    cases d with
    | lst ys =>
      obtain ⟨l, h1, rfl⟩ := Option.map_eq_some_iff.mp (show (lsts? r).map (fun l => ys :: l) = _ from e)
      rw [lsts_mem h1]; rfl
    | _ => cases e
theorem heads_mem : ∀ {yss : List (List D)} {x : D} {xs : List D}, x :: xs ∈ yss → x ∈ heads yss ∧ xs ∈ tails yss
  | [] :: r, x, xs, h => by
    rcases List.mem_cons.mp h with e | h
    · cases e
    · exact heads_mem (yss := r) h
  | (y :: ys) :: r, x, xs, h => by
    rcases List.mem_cons.mp h with e | h
    · cases e
      exact ⟨List.mem_cons_self, List.mem_cons_self⟩
    · exact ⟨List.mem_cons_of_mem _ (heads_mem (yss := r) h).1, List.mem_cons_of_mem _ (heads_mem (yss := r) h).2⟩
def AlkP (n : Nat) (xs : List D) : Prop := (∀ x ∈ xs, ∀ y ∈ xs, W.alike (toP x) (toP y) = true) ∧ ∀ x ∈ xs, dok n x = true
theorem cols_alike {n : Nat} {f : List D → Bool} (hf : ∀ xs, f xs = true → AlkP n xs) : ∀ {m : Nat} {yss : List (List D)}, colsOk f m yss = true → (∀ xs ∈ yss, ∀ ys ∈ yss, W.alikeAll (toPs xs) (toPs ys) = true) ∧ ∀ xs ∈ yss, xs.all (dok n) = true
  | 0, _, h => nomatch h
  | m + 1, [], _ => ⟨fun _ h => (nomatch h), fun _ h => nomatch h⟩
  | m + 1, z :: zs, h => by
    have h : (match f (heads (z :: zs)) with | true => colsOk f m (tails (z :: zs)) | false => false) = true := h
    cases e : f (heads (z :: zs)) with
    | false => rw [e] at h; cases h
    | true =>
      rw [e] at h
      obtain ⟨a1, a2⟩ := hf _ e
      obtain ⟨b1, b2⟩ := cols_alike hf (m := m) h
      generalize z :: zs = yss at *
      refine ⟨fun xs hx ys hy => ?_, fun xs hx => ?_⟩
      · cases xs with
        | nil => rw [toPs]; cases (toPs ys) <;> simp [W.alikeAll]
        | cons x xs =>
          cases ys with
          | nil => rw [toPs, toPs, W.alikeAll]
          | cons y ys =>
            rw [toPs, toPs, W.alikeAll, a1 x (heads_mem hx).1 y (heads_mem hy).1, b1 xs (heads_mem hx).2 ys (heads_mem hy).2]
            rfl
      · cases xs with
        | nil => rfl
        | cons x xs => rw [List.all_cons, a2 x (heads_mem hx).1, b2 xs (heads_mem hx).2]; rfl
theorem homog_alike : ∀ {n : Nat} {xs : List D}, homog n xs = true → AlkP n xs
  | 0, _, h => nomatch h
  | n + 1, [], _ => ⟨fun _ h => (nomatch h), fun _ h => nomatch h⟩
  | n + 1, x :: r, h => by
    cases x with
    | int i =>
      have h : (D.int i :: r).all isI = true := h
      have k : ∀ y ∈ D.int i :: r, ∃ j, y = .int j := fun y hy => by
        have := List.all_eq_true.mp h y hy
        cases y <;> first | exact ⟨_, rfl⟩ | cases this
      exact ⟨fun y hy z hz => by obtain ⟨a, rfl⟩ := k y hy; obtain ⟨b, rfl⟩ := k z hz; simp [toP, W.alike], fun y hy => by obtain ⟨a, rfl⟩ := k y hy; rfl⟩
    | bl i =>
      have h : (D.bl i :: r).all isB = true := h
      have k : ∀ y ∈ D.bl i :: r, ∃ j, y = .bl j := fun y hy => by
        have := List.all_eq_true.mp h y hy
        cases y <;> first | exact ⟨_, rfl⟩ | cases this
      exact ⟨fun y hy z hz => by obtain ⟨a, rfl⟩ := k y hy; obtain ⟨b, rfl⟩ := k z hz; simp [toP, W.alike], fun y hy => by obtain ⟨a, rfl⟩ := k y hy; rfl⟩
    | str i =>
      have h : (D.str i :: r).all isS = true := h
      have k : ∀ y ∈ D.str i :: r, ∃ j, y = .str j := fun y hy => by
        have := List.all_eq_true.mp h y hy
        cases y <;> first | exact ⟨_, rfl⟩ | cases this
      exact ⟨fun y hy z hz => by obtain ⟨a, rfl⟩ := k y hy; obtain ⟨b, rfl⟩ := k z hz; simp [toP, W.alike], fun y hy => by obtain ⟨a, rfl⟩ := k y hy; rfl⟩
    | tup ys =>
      have h : (match tups? (D.tup ys :: r) with | some yss => colsOk (homog n) 100000 yss | none => false) = true := h
      cases e : tups? (D.tup ys :: r) with
      | none => rw [e] at h; cases h
      | some yss =>
        rw [e] at h
        rw [tups_mem e]
        obtain ⟨b1, b2⟩ := cols_alike (n := n) (fun xs hx => homog_alike hx) h
        refine ⟨fun y hy z hz => ?_, fun y hy => ?_⟩
        · obtain ⟨a, ha, rfl⟩ := List.mem_map.mp hy
          obtain ⟨b, hb, rfl⟩ := List.mem_map.mp hz
          rw [toP, toP, W.alike]
          exact b1 a ha b hb
        · obtain ⟨a, ha, rfl⟩ := List.mem_map.mp hy
          exact b2 a ha
    | lst ys =>
      have h : (match lsts? (D.lst ys :: r) with | some yss => colsOk (homog n) 100000 yss | none => false) = true := h
      cases e : lsts? (D.lst ys :: r) with
      | none => rw [e] at h; cases h
      | some yss =>
        rw [e] at h
        rw [lsts_mem e]
        obtain ⟨b1, b2⟩ := cols_alike (n := n) (fun xs hx => homog_alike hx) h
        refine ⟨fun y hy z hz => ?_, fun y hy => ?_⟩
        · obtain ⟨a, ha, rfl⟩ := List.mem_map.mp hy
          obtain ⟨b, hb, rfl⟩ := List.mem_map.mp hz
          rw [toP, toP, W.alike]
          exact b1 a ha b hb
        · obtain ⟨a, ha, rfl⟩ := List.mem_map.mp hy
          exact b2 a ha
    | non => cases h
    | hnd => cases h
    | dic => cases h
/-- a < b -/
def lts (e l : D → D → Bool) : List D → List D → Bool
  | [], ys => match ys with | [] => false | _ => true
  | x :: xs, ys => match ys with | [] => false | y :: ys => match e x y with | true => lts e l xs ys | false => l x y
def ltf : Nat → D → D → Bool
  | 0, _, _ => false
  | n + 1, a, b => match a with
    | .int i => match b with | .int j => decide (i < j) | _ => false
    | .bl c => match b with | .bl e => !c && e | _ => false
    | .str x => match b with | .str y => decide (x.cps.toList < y.cps.toList) | _ => false
    | .tup xs => match b with | .tup ys => lts (eqf n) (ltf n) xs ys | _ => false
    | .lst xs => match b with | .lst ys => lts (eqf n) (ltf n) xs ys | _ => false
    | _ => false
theorem ltf_data : ∀ {n : Nat} {a b : D}, Pl a → Pl b → dok n a = true → dok n b = true → W.alike (toP a) (toP b) = true → ltf n a b = W.dataLt (toP a) (toP b)
  | 0, _, _, _, _, h, _, _ => nomatch h
  | n + 1, a, b, pa, pb, ha, hb, hal => by
    have go : ∀ xs ys : List D, (∀ x ∈ xs, Pl x) → (∀ x ∈ ys, Pl x) → xs.all (dok n) = true → ys.all (dok n) = true → W.alikeAll (toPs xs) (toPs ys) = true → lts (eqf n) (ltf n) xs ys = PyProof.Rows.lexLt itemOrd (W.keyToksAll (toPs xs)) (W.keyToksAll (toPs ys)) := by
      intro xs
      induction xs with
      | nil =>
        intro ys _ _ _ _ _
        cases ys with
        | nil => rw [toPs, W.keyToksAll]; exact (lex_irrefl _).symm
        | cons y ys => rw [toPs, toPs, W.keyToksAll, W.keyToksAll]; symm; exact (lex_diff (O := itemOrd) (by intro z; cases z)).trans (show itemOrd.blt (.inl 0) (.inl 1) = true from rfl)
      | cons x xs ih =>
        intro ys px py hx hy hl
        cases ys with
        | nil => rw [toPs, toPs, W.keyToksAll, W.keyToksAll]; symm; exact (lex_diff (O := itemOrd) (by intro z; cases z)).trans (show itemOrd.blt (.inl 1) (.inl 0) = false from rfl)
        | cons y ys =>
          rw [List.all_cons, Bool.and_eq_true] at hx hy
          rw [toPs, toPs] at hl
          obtain ⟨l1, l2⟩ := W.alike_all_cons hl
          have ee : eqf n x y = PyData.eqv (toP x) (toP y) := eqf_eqv (px x (by simp)) (py y (by simp)) (.inl hx.1)
          rw [toPs, toPs]
          show (match eqf n x y with | true => lts (eqf n) (ltf n) xs ys | false => ltf n x y) = _
          cases e : eqf n x y with
          | true =>
            rw [ee] at e
            rw [W.dataLt_all_yes l1 e]
            exact ih ys (fun z hz => px z (by simp [hz])) (fun z hz => py z (by simp [hz])) hx.2 hy.2 l2
          | false =>
            rw [ee] at e
            rw [W.dataLt_all_no l1 e]
            exact ltf_data (px x (by simp)) (py y (by simp)) hx.1 hy.1 l1
    cases pa with
    | int i =>
      cases pb with
      | int j => rw [toP, toP, W.dataLt_int]; rfl
      | _ => simp [toP, W.alike] at hal
    | bl c =>
      cases pb with
      | bl e => rw [toP, toP, W.dataLt_bool]; cases c <;> cases e <;> rfl
      | _ => simp [toP, W.alike] at hal
    | str x =>
      cases pb with
      | str y => rw [toP, toP, W.dataLt_str]; rfl
      | _ => simp [toP, W.alike] at hal
    | tup px =>
      cases pb with
      | tup py =>
        rw [toP, toP, W.dataLt_tuple]
        rw [toP, toP, W.alike] at hal
        exact go _ _ px py ha hb hal
      | _ => simp [toP, W.alike] at hal
    | lst px =>
      cases pb with
      | lst py =>
        rw [toP, toP, W.dataLt_list]
        rw [toP, toP, W.alike] at hal
        exact go _ _ px py ha hb hal
      | _ => simp [toP, W.alike] at hal
    | non =>
      cases pb with
      | non => rw [toP]; simp [ltf, W.dataLt, W.keyToks, PyProof.Rows.lexLt]
      | _ => simp [toP, W.alike] at hal
/-! a new object at any free place -/
section
variable {P : Program} {w : World} {fs ex : List Addr} {H : Hp} {h h' : Heap} {a : Addr} {o : HO}
theorem un_at (k : ∀ b u, h.get? b = some u → h'.get? b = some u) (hn : H a = none) (na : ∀ u, h.get? a ≠ some u) : Un fs ex H (upd H a o) h h' where
  keep := fun b u q _ _ _ => k b u q
  slot := fun b u q _ _ _ => ⟨u.slots, k b u q⟩
  free := fun b u q n _ => by
    rw [upd_ne (fun (z : b = a) => na u (by rw [← z]; exact q))]
    exact n
  there := fun b u q _ => ⟨u, k b u q⟩
  tups := fun b xs q => upd_keep hn b _ q
  frzs := fun b u xs q => upd_keep hn b _ q
  tbls := fun b ps q => ⟨#[], by rw [upd_keep hn b _ q, Array.append_empty]⟩
theorem hok_at (x : HOk P w H h) (k : ∀ b u, h.get? b = some u → h'.get? b = some u) (hn : H a = none) (new : ObjOk P w (upd H a o) h' a o) : HOk P w (upd H a o) h' := fun b u e => by
  by_cases hb : b = a
  · cases hb
    rw [upd_same] at e
    cases e
    exact new
  · rw [upd_ne hb] at e
    exact (x b u e).stay (fun c v _ q => k c v q) (fun c q => upd_keep hn c _ q) fun c xs q => upd_keep hn c _ q
theorem inv_at {X : Cx} {pins : List (Addr × Obj)} {σ : L2.St} {H : Hp} {s : Shared} {h' : Heap} (I : Inv X pins σ H s) (k : ∀ b u, s.heap.get? b = some u → h'.get? b = some u) (na : ∀ u, s.heap.get? a ≠ some u) (new : ∀ H', H' = upd H a o → ObjOk X.prog X.w H' h' a o) :
    H a = none ∧ Inv X pins σ (upd H a o) { s with heap := h' } := by
  have hn : H a = none := by
    cases q : H a with
    | none => rfl
    | some u =>
      have lt := I.hok.lt q
      have : ∃ ob, s.heap.get? a = some ob := by
        have z := I.hok a u q
        clear lt q
        induction u with
        | lst xs => obtain ⟨_, _, _, _, e⟩ := z; exact ⟨_, e⟩
        | tup xs => obtain ⟨_, _, _, p, e, _⟩ := z; exact ⟨_, e⟩
        | dK kvs => obtain ⟨_, _, _, _, o, _, _, e, _⟩ := z; exact ⟨_, e⟩
        | dT kvs => obtain ⟨_, _, _, _, o, _, _, e, _⟩ := z; exact ⟨_, e⟩
        | set S n => obtain ⟨o, _, _, _, e, _⟩ := z; exact ⟨_, e⟩
        | ins C dx fs => obtain ⟨_, _, _, e, _⟩ := z; exact ⟨_, e⟩
        | own y => obtain ⟨_, e⟩ := z; exact ⟨_, e⟩
        | xd fs => obtain ⟨_, ⟨_, _, _, e, _⟩, _⟩ := z; exact ⟨_, e⟩
        | rng lo hi => obtain ⟨_, _, _, e⟩ := z; exact ⟨_, e⟩
        | frz ob u => obtain ⟨e, _⟩ := z; exact ⟨_, e⟩
        | tbl ps => exact ⟨_, z⟩
        | met f y => exact ⟨_, z⟩
        | ext φ => obtain ⟨_, ⟨_, e⟩, _⟩ := z; exact ⟨_, e⟩
      obtain ⟨ob, e⟩ := this
      exact absurd e (na ob)
  exact ⟨hn, I.un (t' := s.toks) (un_at k hn na) (hok_at I.hok k hn (new _ rfl))⟩
end
/-! sorted(xs), xs a list or a tuple -/
section
variable {prog : Program} {w : World} {A : Around} {E : Value → Shared → Prop} {s : Shared}
theorem sorted_seq {l : Addr} {c : String} {o : Obj} {n : Nat} {us : List Value} {ds : List D} {Rr : Value → D → Prop} {Q : Value → Shared → Prop} (hT : c = "list" ∨ c = "tuple") (ho : s.heap.get? l = some o) (hc : o.cls = .type c) (hd : o.data = .seq us.toArray n)
    (hL : us.length ≤ sizeLine) (e : W.EachIs Rr us ds) (er : W.EachIs (fun v b => ∃ as, Reads s.heap v (toP b) as) us ds) (hal : W.AllAlike (ds.map toP)) (hk : W.Sortable (ds.map toP)) (hu : ∀ b, b ∈ ds → A.units + 2 + (toP b).depth < cLine)
    (h : ∀ (h1 : Heap) (a : Addr) (out : List Value) (k : Nat), (∀ b u, s.heap.get? b = some u → h1.get? b = some u) → (∀ u, s.heap.get? a ≠ some u) → h1.get? a = some { cls := .type "list", data := .seq out.toArray k } → W.EachIs Rr out (ds.mergeSort (W.dataLe false toP)) → Q (.ref a) { s with heap := h1 }) :
    wpAny (model prog w) A (call (.builtin "sorted") [.ref l]) Q E s := by
  refine call_function_entry_kw kind_sorted plain_sorted entry_sorted (args_sorted1 _) ?_
  show wpAny _ _ (Builtin.«sorted» ⟨[.ref l], []⟩) _ _ _
  unfold Builtin.«sorted»
  refine wpAny_bind (m := checkCount "sorted" 1 1 _) (wpAny_pure (wpAny_bind (wpAny_collect_seq l hT ho hc hd (fun g hg => ?_) (by rw [List.size_toArray]; exact hL))))
  refine wpAny_bind (wpAny_newList ?_ (by simpa using hL))
  have na : ∀ u, s.heap.get? g.objs.size ≠ some u := fun u q => absurd (Heap.lt_size (hg _ _ q)) (Nat.lt_irrefl _)
  generalize hg2 : g.push (seqObj "list" us.toArray 0) = g2
  have at2 : g2.get? g.objs.size = some (seqObj "list" us.toArray 0) := by rw [← hg2]; exact Heap.get?_push_size _ rfl
  have old2 : ∀ b u, s.heap.get? b = some u → g2.get? b = some u := fun b u q => by rw [← hg2]; exact Heap.get?_push_of_some _ (hg b u q)
  have old3 : ∀ b u, s.heap.get? b = some u → (W.sortingHeap g2 g.objs.size us).get? b = some u := fun b u q => W.sortingHeap_old (fun (z : b = g.objs.size) => na u (by rw [← z]; exact q)) (old2 b u q)
  have er3 : W.EachIs (fun v b => ∃ as, Reads (W.sortingHeap g2 g.objs.size us) v (toP b) as) us ds := er.mono fun _ _ ⟨as, r⟩ => ⟨as, PyProof.Rows.Reads.keeps old3 r⟩
  refine wpAny_bind (wpAny_holding (wpAny_call_entry_kw slot_list_sort ⟨_, at2, rfl⟩ entry_list_sort ?_ (args_list_sort _)))
  have SS : W.SortsAt prog w A.in1.in1 { s with heap := W.sortingHeap g2 g.objs.size us } (W.dataKind (W.sortingHeap g2 g.objs.size us) (ds.map toP)) us :=
    W.SortsAt.data (s := { s with heap := W.sortingHeap g2 g.objs.size us }) (W.each_map (R := fun v d => ∃ as, Reads (W.sortingHeap g2 g.objs.size us) v d as) toP er3) hal hk (W.bound_map hu)
  refine W.list_sort_vals (s := { s with heap := g2 }) at2 SS hL ?_
  refine ⟨.none, rfl, wpAny_pure ⟨_, rfl, ?_⟩⟩
  obtain ⟨k, hk2⟩ := sortedHeap_at (out := (W.sortVals (W.dataKind (W.sortingHeap g2 g.objs.size us) (ds.map toP)) false us us).toArray) (vs := us) at2
  refine h _ g.objs.size _ k (fun b u q => ?_) na hk2 (W.sortVals_data false e er3 hal)
  rw [sortedHeap_old (fun (z : b = g.objs.size) => na u (by rw [← z]; exact q)) (Heap.lt_size (old2 b u q))]
  exact old2 b u q
end
/-! the rule -/
def sortOp (xs : List D) : Option D := match homog 60 xs && (xs.all fun d => match d with | .tup [] => false | _ => true) with
  | true => some (.lst (sortR (fun a b => ltf 60 b a) xs))
  | false => none
def oSort : D → Option D
  | .lst xs => sortOp xs
  | .tup xs => sortOp xs
  | _ => none
def rSortE (K : PySem.W.Frag) (F : Addr → Prop) : V → Hp → VK → Prop := fun x H Q => ∃ a vs ds, x = .ref a ∧ (SqL K H a vs ∨ SqT K H a vs) ∧ Shs K H F vs ds ∧ W.AllAlike (ds.map toP) ∧ W.Sortable (ds.map toP) ∧ (∀ d ∈ ds, (toP d).depth ≤ 64 ∧ Pl d) ∧
  ∀ p ws, H p = none → ws.length = vs.length → Shs K H F ws (ds.mergeSort (W.dataLe false toP)) → Q (.ref p) (upd H p (.lst ws))
theorem outs {K : PySem.W.Frag} {H : Hp} {F : Addr → Prop} : ∀ {us : List Value} {ds : List D}, W.EachIs (fun v d => ∃ x, RelV x v ∧ Sh K H F x d ∧ Pl d) us ds → ∃ vs, Vals vs us ∧ Shs K H F vs ds
  | _, _, .nil => ⟨[], .nil, .nil⟩
  | _, _, .cons ⟨x, r, h, _⟩ t => by
    obtain ⟨vs, h1, h2⟩ := outs t
    exact ⟨x :: vs, .cons r h1, .cons h h2⟩
theorem ins {K : PySem.W.Frag} {H : Hp} {F : Addr → Prop} : ∀ {vs : List V} {us : List Value} {ds : List D}, Vals vs us → Shs K H F vs ds → (∀ d ∈ ds, Pl d) → W.EachIs (fun v d => ∃ x, RelV x v ∧ Sh K H F x d ∧ Pl d) us ds
  | _, _, _, .nil, .nil, _ => .nil
  | _, _, _, .cons r t, .cons h hs, p => .cons ⟨_, r, h, p _ (by simp)⟩ (ins t hs fun d hd => p d (by simp [hd]))
section
variable {X : Cx} {G : Cn}
theorem cr_sort (hu : X.A.units + 80 < cLine) (F : Addr → Prop) : CallR X (.builtin "sorted") (fun xs H Q => ∃ x, xs = [x] ∧ rSortE X.K F x H Q) := by
  intro pins s σ H xs us Q I r h
  obtain ⟨x, rfl, a, vs, ds, rfl, hsq, hsh, hal, hk, hdep, q⟩ := h
  rw [Vals.ref1 r]
  have core : ∀ {c : String} {o : Obj} {n : Nat} {its : List Value}, (c = "list" ∨ c = "tuple") → s.heap.get? a = some o → o.cls = .type c → o.data = .seq its.toArray n → Vals vs its → vs.length ≤ sizeLine → wpAny (model X.prog X.w) X.A (call (.builtin "sorted") [.ref a]) (EP X pins σ Q) X.xe s := by
    intro c o n its hT ho hc hd hv hz
    have e := ins hv hsh fun d hd => (hdep d hd).2
    refine sorted_seq hT ho hc hd (by rw [← hv.length]; exact hz) e (e.mono fun u d ⟨y, ry, hy, py⟩ => Dp.reads I _ _ _ (hy.dp py) ry) hal hk (fun d hd => by have := (hdep d hd).1; omega) fun h1 p out k old na at1 e2 => ?_
    obtain ⟨ws, hw1, hw2⟩ := outs e2
    have hl : ws.length = vs.length := by rw [hw2.length, List.length_mergeSort, hsh.length]
    obtain ⟨hn, J⟩ := inv_at (o := .lst ws) I old na fun H' _ => ⟨by rw [hl]; exact hz, out, k, hw1, at1⟩
    exact ⟨.ref p, _, J, rfl, q p ws hn hl hw2⟩
  rcases hsq with hsq | hsq
  · obtain ⟨its, rv, ⟨o, n, e1, e2, _, e4⟩, hz⟩ := I.list hsq
    exact core (.inl rfl) e1 e2 e4 rv hz
  · obtain ⟨its, rv, ⟨o, e1, e2, n, e4⟩, hz⟩ := I.tuple hsq
    exact core (.inr rfl) e1 e2 e4 rv hz
theorem sortOp_ok {K : PySem.W.Frag} {H : Hp} {F : Addr → Prop} {vs : List V} {xs : List D} {d' : D} (h : Shs K H F vs xs) (e : sortOp xs = some d') : W.AllAlike (xs.map toP) ∧ W.Sortable (xs.map toP) ∧ (∀ d ∈ xs, (toP d).depth ≤ 64 ∧ Pl d) ∧ d' = .lst (xs.mergeSort (W.dataLe false toP)) := by
  unfold sortOp at e
  cases e1 : (homog 60 xs && (xs.all fun d => match d with | .tup [] => false | _ => true)) with
  | false => rw [e1] at e; cases e
  | true =>
    rw [e1] at e
    cases e
    rw [Bool.and_eq_true] at e1
    obtain ⟨h1, h2⟩ := homog_alike e1.1
    have pl : ∀ x ∈ xs, Pl x := fun x hx => dok_pl (h2 x hx)
    refine ⟨fun a ha b hb => ?_, ?_, fun d hd => ⟨Nat.le_trans (dok_depth (h2 d hd)) (by decide), pl d hd⟩, ?_⟩
    · obtain ⟨x, hx, rfl⟩ := List.mem_map.mp ha
      obtain ⟨y, hy, rfl⟩ := List.mem_map.mp hb
      exact h1 x hx y hy
    · have n1 := List.all_eq_true.mp e1.2
      cases xs with
      | nil => exact .inr fun d hd => nomatch hd
      | cons x r =>
        have tupd : ∀ y ∈ x :: r, W.alike (toP x) (toP y) = true := fun y hy => h1 x (by simp) y hy
        have px := pl x (by simp)
        cases px with
        | tup _ =>
          refine .inl fun d hd => ?_
          obtain ⟨y, hy, rfl⟩ := List.mem_map.mp hd
          have := tupd y hy
          have ny := n1 y hy
          cases pl y hy with
          | @tup ys _ =>
            cases ys with
            | nil => cases ny
            | cons z zs => exact ⟨_, _, by rw [toP, toPs]⟩
          | _ => simp [toP, W.alike] at this
        | non => cases e1.1
        | _ =>
          refine .inr fun d hd => ?_
          obtain ⟨y, hy, rfl⟩ := List.mem_map.mp hd
          have := tupd y hy
          cases pl y hy <;> first | (simp [toP, W.alike] at this; done) | (refine ⟨fun z => ?_, fun xs z => ?_⟩ <;> simp [toP] at z)
    · congr 1
      have T : W.TotalLe (W.dataLe false toP) := W.sortLe_total _ _ _
      rw [← sortR_eq T]
      refine sortR_congr fun a ha b hb => ?_
      rw [ltf_data (pl b hb) (pl a ha) (h2 b hb) (h2 a ha) (h1 b hb a ha)]
      show W.dataLt (toP b) (toP a) = !(!PyProof.Rows.lexLt itemOrd (W.keyToks (toP b)) (W.keyToks (toP a)))
      rw [Bool.not_not]
      rfl
theorem u_sort {st0 : AS} : U1 G .ow oSort (fun x H Q => ∃ F, rSortE G.K F x H Q) := by
  intro st σ H O v d d' Q S hv ho q
  have fin : ∀ {a : Addr} {vs : List V} {xs : List D}, v = .ref a → (SqL G.K H a vs ∨ SqT G.K H a vs) → Shs G.K H (G.F O) vs xs → sortOp xs = some d' → ∃ F, rSortE G.K F v H Q := by
    intro a vs xs e hsq hsh ho
    obtain ⟨h1, h2, h3, rfl⟩ := sortOp_ok hsh ho
    refine ⟨G.F O, a, vs, xs, e, hsq, hsh, h1, h2, h3, fun p ws hp hl hw => ?_⟩
    obtain ⟨s1, S1, r1⟩ := end_lst S hp hw
    exact q _ _ _ s1 S1 r1
  cases d with
  | lst xs =>
    obtain ⟨a, vs, rfl, ha, hvs⟩ := hv.lst
    exact fin rfl (.inl (Rd.sql ha)) hvs ho
  | tup xs =>
    obtain ⟨a, vs, rfl, ha, hvs⟩ := hv.tup
    exact fin rfl (.inr ha) hvs ho
  | _ => cases ho
end
end EV
/-! more of expressions: kinds of things, slices, tests, displays -/
namespace EV
open PySem PySem.Spec PyProof.Rows L2
/-! what an expression's head is -/
def notStar : Expr → Bool
  | .Starred .. => false
  | _ => true
def notSet : Expr → Bool
  | .Set .. => false
  | _ => true
def notSlice : Expr → Bool
  | .Slice .. => false
  | _ => true
/-- no test of its own kind -/
def plainT : Expr → Bool
  | .UnaryOp .Not _ _ => false
  | .BoolOp .. => false
  | .IfExp .. => false
  | .Compare .. => false
  | _ => true
theorem star_of {e : Expr} {es : List Expr} {env : Env} (h : notStar e = true) : starEach (e :: es) env = (false, eval e env) :: starEach es env := by
  cases e <;> first | rfl | cases h
theorem marks_of {e : Expr} {op : CmpOp} (h : notSet e = true) : behindInMarks op e = false := by
  cases e <;> first | rfl | cases h
theorem fold_of {e : Expr} {env : Env} (h : notSet e = true) : ∀ x, foldedSetIterable e env x = pure x := by
  intro x
  cases e <;> first | rfl | cases h
theorem ix_of {e : Expr} (h : notSlice e = true) : PlainIx e := by
  intro o i
  cases e <;> first | rfl | cases h
theorem test_of {e : Expr} {env : Env} (h : plainT e = true) : ∀ whole, isTrue e env whole = (do let v ← whole; standAt e.pos; holding [v] (truthy v)) := by
  intro whole
  cases e with
  | UnaryOp op x p => cases op <;> first | rfl | cases h
  | _ => first | rfl | cases h
/-! isinstance of built-in types -/
inductive TN | int | bool | str | tup | lst | dct
def TN.name : TN → Str
  | .int => "int" | .bool => "bool" | .str => "str" | .tup => "tuple" | .lst => "list" | .dct => "dict"
def TN.ty : TN → String
  | .int => "int" | .bool => "bool" | .str => "str" | .tup => "tuple" | .lst => "list" | .dct => "dict"
def isTN (d : D) (t : TN) : Bool := match d with
  | .int _ => match t with | .int => true | _ => false
  | .bl _ => match t with | .int => true | .bool => true | _ => false
  | .str _ => match t with | .str => true | _ => false
  | .tup _ => match t with | .tup => true | _ => false
  | .lst _ => match t with | .lst => true | _ => false
  | .dic => match t with | .dct => true | _ => false
  | _ => false
def tyOf : D → String
  | .int _ => "int" | .bl _ => "bool" | .str _ => "str" | .tup _ => "tuple" | .lst _ => "list" | .dic => "dict" | _ => "NoneType"
theorem kit_tn (K : PySem.W.Frag) : ∀ (d : D) (t : TN), d ≠ .hnd → W.kitOne K (.type (tyOf d)) (.type t.ty) = some (isTN d t) := by
  intro d t hd
  cases d with
  | hnd => exact absurd rfl hd
  | non => exact kit_ty (show kitB "NoneType" t.ty = some (isTN .non t) by cases t <;> decide +kernel)
  | bl b => exact kit_ty (show kitB "bool" t.ty = some (isTN (.bl true) t) by cases t <;> decide +kernel)
  | int i => exact kit_ty (show kitB "int" t.ty = some (isTN (.int 0) t) by cases t <;> decide +kernel)
  | str x => exact kit_ty (show kitB "str" t.ty = some (isTN (.str ⟨#[]⟩) t) by cases t <;> decide +kernel)
  | tup x => exact kit_ty (show kitB "tuple" t.ty = some (isTN (.tup []) t) by cases t <;> decide +kernel)
  | lst x => exact kit_ty (show kitB "list" t.ty = some (isTN (.lst []) t) by cases t <;> decide +kernel)
  | dic => exact kit_ty (show kitB "dict" t.ty = some (isTN .dic t) by cases t <;> decide +kernel)
section
variable {X : Cx} {G : Cn}
theorem tyx {st : AS} {σ : L2.St} {H : Hp} {O : Addr → Prop} {v : V} {d : D} (hv : VR G .br st σ H O v d) (hd : d ≠ .hnd) : TyX G.K H v (.type (tyOf d)) := by
  cases d with
  | non => rw [hv.non]; exact .base .non
  | bl b => rw [hv.bl]; exact .base (.bl _)
  | int i => rw [hv.int]; exact .base (.int _)
  | str x => rw [hv.str.1]; exact .base (.str _)
  | tup ds =>
    obtain ⟨a, vs, rfl, (h | ⟨o, h⟩) | ⟨o, its, n, h, hc, _⟩, _⟩ := hv.tup
    · exact .base (.tup h)
    · exact .fTuple h
    · exact .kTuple h hc
  | lst ds =>
    obtain ⟨a, vs, rfl, h | ⟨o, h⟩, _⟩ := hv.lst
    · exact .base (.lst h)
    · exact .base (.frz h)
  | hnd => exact absurd rfl hd
  | dic =>
    rcases hv with (h | ⟨e, _⟩) | ⟨_, _, _, _, e, _⟩
    · cases h with
      | dic h =>
        rcases h with h | ⟨o, h⟩
        · exact .base (.dK h)
        · exact .fDict h
    · cases e
    · cases e
def oIsi (ts : List TN) (d : D) : Option D := match d with
  | .hnd => none
  | d => some (.bl (ts.any (isTN d)))
theorem oIsi_some {ts : List TN} {d d' : D} (h : oIsi ts d = some d') : d ≠ .hnd ∧ d' = .bl (ts.any (isTN d)) := by
  cases d with
  | hnd => cases h
  | _ =>
    cases h
    exact ⟨(by intro z; cases z), rfl⟩
theorem u_isi {t : TN} : U1 G .sh (oIsi [t]) (fun x H Q => rIsi G.K [x, .ty t.ty] H Q) := by
  intro st σ H O v d d' Q S hv ho q
  obtain ⟨hd, rfl⟩ := oIsi_some ho
  refine ⟨v, .ty t.ty, _, _, _, rfl, .ty _, tyx hv hd, kit_tn G.K d t hd, ?_⟩
  have : [t].any (isTN d) = isTN d t := by simp
  rw [← this]
  exact q _ H O Stp.refl S (.inl (.bl _))
theorem kit_any (K : PySem.W.Frag) (d : D) (hd : d ≠ .hnd) : ∀ ts : List TN, W.kitAny K (.type (tyOf d)) (ts.map fun t => .type t.ty) = some (ts.any (isTN d))
  | [] => rfl
  | t :: ts => kitAny_cons (b := isTN d t) (kit_tn K d t hd) (fun e => by rw [kit_any K d hd ts, List.any_cons, e]; rfl) (fun e => by rw [List.any_cons, e]; rfl)
theorem cls_all : ∀ ts : List TN, Paired ClsV (ts.map fun t => V.ty t.ty) (ts.map fun t => Value.type t.ty)
  | [] => .nil
  | t :: ts => .cons (.ty _) (cls_all ts)
theorem u_isiT {ts us : TN} : U1 G .sh (oIsi [ts, us]) (fun x H Q => ∀ p, H p = none → rIsiT G.K [x, .ref p] (upd H p (.tup [.ty ts.ty, .ty us.ty])) Q) := by
  intro st σ H O v d d' Q S hv ho q p np
  obtain ⟨hd, rfl⟩ := oIsi_some ho
  have S1 : SR G st σ (upd H p (.tup [.ty ts.ty, .ty us.ty])) O := S.new np
  have hv1 := S.carB (Stp.new (o := .tup [.ty ts.ty, .ty us.ty]) (O := O) (hd := G.hd) np) hv (st' := st) (σ' := σ)
  refine ⟨v, p, _, _, _, _, rfl, upd_same, cls_all [ts, us], tyx hv1 hd, kit_any G.K d hd [ts, us], ?_⟩
  exact q _ _ O (Stp.new np) S1 (.inl (.bl _))
end
/-! slices -/
abbrev MO := AS → R (Option Int × AS)
def mNo : MO := fun st => .ok (none, st)
def mPart (m : ME) : MO := fun st => (m st).bind fun p => match p.1 with | .int i => .ok (some i, p.2) | _ => .bad
def TOp (G : Cn) (m : MO) : TO := fun σ H Q => ∃ st O, SR G st σ H O ∧ (m st).all fun p => ∀ H' O', Stp true G.hd O H O' H' → SR G p.2 σ H' O' → Q p.1 H'
theorem PO.weak {X : Cx} {e : Option Expr} {t t' : TO} (h : PO X e t) (w : ∀ σ H Q, t' σ H Q → t σ H Q) : PO X e t' := ⟨fun pins s σ H Q I q => h.run pins s σ H Q I (w σ H Q q)⟩
def cutD (xs : List D) (lo hi : Option Int) : List D := (xs.drop (HT.sIx xs.length 0 lo)).take (HT.sIx xs.length xs.length hi - HT.sIx xs.length 0 lo)
theorem cut_sh {K : PySem.W.Frag} {H : Hp} {F : Addr → Prop} {vs : List V} {ds : List D} (h : Shs K H F vs ds) (lo hi : Option Int) : Shs K H F (cutV vs lo hi) (cutD ds lo hi) := by
  unfold cutV cutD
  rw [h.length]
  exact (h.drop _).take _
def mSl (own : Bool) (m : ME) (lo hi : MO) : ME := fun st => (m st).bind fun p => (lo p.2).bind fun a => (hi a.2).bind fun b => match p.1 with
  | .lst xs => .ok (.lst (cutD xs a.1 b.1), b.2)
  | .tup xs => match own with | true => .bad | false => .ok (.tup (cutD xs a.1 b.1), b.2)
  | _ => .bad
section
variable {X : Cx} {G : Cn}
theorem po_no : PO X none (TOp G mNo) := PO.weak po_none fun σ H Q q => by
  obtain ⟨st, O, S, q⟩ := q
  exact q H O Stp.refl S
theorem po_pt {e : Expr} {m : ME} (h : PE X e (T G .br true m)) : PO X (some e) (TOp G (mPart m)) := PO.weak (po_some h) fun σ H Q q => by
  obtain ⟨st, O, S, q⟩ := q
  refine ⟨st, O, S, R.all_mono (fun p q v H1 O1 s1 S1 r1 => ?_) (R.all_bind q)⟩
  cases e : p.1 with
  | int i =>
    rw [e] at q r1
    exact ⟨i, r1.int, q H1 O1 s1 S1⟩
  | _ => rw [e] at q; exact q.elim
theorem cut_whole {ds : List D} {lo hi : Option Int} (h : HT.sIx ds.length 0 lo = 0 ∧ HT.sIx ds.length ds.length hi = ds.length) : cutD ds lo hi = ds := by
  unfold cutD
  rw [h.1, h.2]
  simp
def rSlE (K : PySem.W.Frag) : V → Option Int → Option Int → Hp → VK → Prop := fun x lo hi H Q => rSlL K x lo hi H Q ∨ rSlA K x lo hi H Q
theorem sl_e : SlR X (rSlE X.K) := SlR.or sl_list sl_tupA
theorem w_sl_sh {m : ME} {lo hi : MO} (σ : L2.St) (H : Hp) (Q : VK) (q : T G .sh true (mSl false m lo hi) σ H Q) : tSl (rSlE G.K) (T G .br true m) (TOp G lo) (TOp G hi) σ H Q := by
  obtain ⟨st, O, S, q⟩ := q
  refine ⟨st, O, S, R.all_mono (fun p q v H1 O1 s1 S1 r1 => ?_) (R.all_bind q)⟩
  refine ⟨p.2, O1, S1, R.all_mono (fun a q H2 O2 s2 S2 => ?_) (R.all_bind q)⟩
  refine ⟨a.2, O2, S2, R.all_mono (fun b q H3 O3 s3 S3 => ?_) (R.all_bind q)⟩
  have r3 : VR G .br b.2 σ H3 O3 v p.1 := S2.carB (st' := b.2) (σ' := σ) s3 (S1.carB (st' := a.2) (σ' := σ) s2 r1)
  have s13 := (s1.trans s2 S2.hO).trans s3 S3.hO
  cases e : p.1 with
  | lst xs =>
    rw [e] at q r3
    obtain ⟨x, vs, rfl, ha, hvs⟩ := r3.lst
    refine .inl ⟨x, vs, rfl, Rd.sql ha, fun l hl => ?_⟩
    obtain ⟨s4, S4, r4⟩ := end_lst S3 hl (cut_sh hvs a.1 b.1)
    obtain ⟨y, e1, ⟨ho, ds, ws, e2, e3, e4⟩, hn⟩ := r4
    cases e1
    refine q _ _ _ ((s13.trans s4 S4.hO).give (a := l)) (S4.give hn) (.inl ?_)
    rw [e2]
    exact .lst (.inl e3) (fun z => z.elim (fun z => S4.bo l z ho) fun z => z.2 rfl) (e4.mono fun c z => z.elim .inl fun z => .inr z.1)
  | tup xs =>
    rw [e] at q r3
    obtain ⟨x, vs, rfl, ha, hvs⟩ := r3.tup
    have q : ∀ v' H' O', Stp true G.hd O H O' H' → SR G b.2 σ H' O' → VR G .sh b.2 σ H' O' v' (.tup (cutD xs a.1 b.1)) → Q v' H' := q
    have hL := hvs.length
    refine .inr ⟨x, vs, rfl, ha, fun hw => ?_, fun hw p hp => ?_⟩
    · rw [hL] at hw
      rw [cut_whole hw] at q
      exact q _ _ _ s13 S3 (.inl (.tup ha hvs))
    · obtain ⟨s4, S4, r4⟩ := end_tup S3 hp (cut_sh hvs a.1 b.1)
      exact q _ _ _ (s13.trans s4 S4.hO) S4 r4
  | _ => rw [e] at q; exact q.elim
theorem w_sl_ow {m : ME} {lo hi : MO} (σ : L2.St) (H : Hp) (Q : VK) (q : T G .ow true (mSl true m lo hi) σ H Q) : tSl (rSlE G.K) (T G .br true m) (TOp G lo) (TOp G hi) σ H Q := by
  obtain ⟨st, O, S, q⟩ := q
  refine ⟨st, O, S, R.all_mono (fun p q v H1 O1 s1 S1 r1 => ?_) (R.all_bind q)⟩
  refine ⟨p.2, O1, S1, R.all_mono (fun a q H2 O2 s2 S2 => ?_) (R.all_bind q)⟩
  refine ⟨a.2, O2, S2, R.all_mono (fun b q H3 O3 s3 S3 => ?_) (R.all_bind q)⟩
  have r3 : VR G .br b.2 σ H3 O3 v p.1 := S2.carB (st' := b.2) (σ' := σ) s3 (S1.carB (st' := a.2) (σ' := σ) s2 r1)
  have s13 := (s1.trans s2 S2.hO).trans s3 S3.hO
  cases e : p.1 with
  | lst xs =>
    rw [e] at q r3
    obtain ⟨x, vs, rfl, ha, hvs⟩ := r3.lst
    refine .inl ⟨x, vs, rfl, Rd.sql ha, fun l hl => ?_⟩
    obtain ⟨s4, S4, r4⟩ := end_lst S3 hl (cut_sh hvs a.1 b.1)
    exact q _ _ _ (s13.trans s4 S4.hO) S4 r4
  | tup xs => rw [e] at q; exact q.elim
  | _ => rw [e] at q; exact q.elim
/-! xs[::-1] -/
def oRev (own : Bool) : D → Option D
  | .lst xs => some (.lst xs.reverse)
  | .tup xs => match own with | true => none | false => some (.tup xs.reverse)
  | _ => none
end
/-! tests -/
abbrev MT := AS → R (Bool × AS)
def tVal (m : ME) : MT := fun st => (m st).bind fun p => match p.1 with | .bl b => .ok (b, p.2) | _ => .bad
def tAnd (a b : MT) : MT := fun st => (a st).bind fun p => match p.1 with | true => b p.2 | false => .ok (false, p.2)
def tOr (a b : MT) : MT := fun st => (a st).bind fun p => match p.1 with | true => .ok (true, p.2) | false => b p.2
def tNot (a : MT) : MT := fun st => (a st).bind fun p => .ok (!p.1, p.2)
def mAnd (a b : ME) : ME := fun st => (a st).bind fun p => match p.1 with | .bl c => (match c with | true => b p.2 | false => .ok (.bl false, p.2)) | _ => .bad
def mOr (a b : ME) : ME := fun st => (a st).bind fun p => match p.1 with | .bl c => (match c with | true => .ok (.bl true, p.2) | false => b p.2) | _ => .bad
def mNot (a : ME) : ME := fun st => (a st).bind fun p => match p.1 with | .bl c => .ok (.bl (!c), p.2) | _ => .bad
def mIf (t : MT) (a b : ME) : ME := fun st => (t st).bind fun p => match p.1 with | true => a p.2 | false => b p.2
def mChain (p q : Int → Int → Bool) (a b c : ME) : ME := fun st => (a st).bind fun x => (b x.2).bind fun y => match x.1 with
  | .int i => match y.1 with
    | .int j => match p i j with
      | true => (c y.2).bind fun z => match z.1 with | .int k => .ok (.bl (q j k), z.2) | _ => .bad
      | false => .ok (.bl false, y.2)
    | _ => .bad
  | _ => .bad
section
variable {X : Cx} {G : Cn} {k : Kd}
theorem bl_sh {st : AS} {σ : L2.St} {H : Hp} {O : Addr → Prop} {v : V} {b : Bool} (h : VR G .sh st σ H O v (.bl b)) : v = .bl b := VR.bl (st := st) (σ := σ) (.inl h)
theorem w_val {m : ME} (σ : L2.St) (H : Hp) (Q : Bool → Hp → Prop) (q : TB G true (tVal m) σ H Q) : L2.tB (T G .br true m) σ H Q := by
  obtain ⟨st, O, S, q⟩ := q
  refine ⟨st, O, S, R.all_mono (fun p q v H1 O1 s1 S1 r1 => ?_) (R.all_bind q)⟩
  cases e : p.1 with
  | bl b =>
    rw [e] at q r1
    exact ⟨b, r1.bl, q H1 O1 s1 S1⟩
  | _ => rw [e] at q; exact q.elim
theorem t_val {e : Expr} {m : ME} (h : PE X e (T G .br true m)) (he : plainT e = true) : PT X e (TB G true (tVal m)) := PT.weak (pt_val h (test_of he)) w_val
theorem w_tand {a b : MT} (σ : L2.St) (H : Hp) (Q : Bool → Hp → Prop) (q : TB G true (tAnd a b) σ H Q) : L2.tAnd (TB G true a) (TB G true b) σ H Q := by
  obtain ⟨st, O, S, q⟩ := q
  refine ⟨st, O, S, R.all_mono (fun p q H1 O1 s1 S1 => ?_) (R.all_bind q)⟩
  cases e : p.1 with
  | true =>
    rw [e] at q
    exact iteT ⟨p.2, O1, S1, R.all_mono (fun p2 q H2 O2 s2 S2 => q H2 O2 (s1.trans s2 S2.hO) S2) q⟩
  | false =>
    rw [e] at q
    exact iteF (q H1 O1 s1 S1)
theorem w_tor {a b : MT} (σ : L2.St) (H : Hp) (Q : Bool → Hp → Prop) (q : TB G true (tOr a b) σ H Q) : L2.tOr (TB G true a) (TB G true b) σ H Q := by
  obtain ⟨st, O, S, q⟩ := q
  refine ⟨st, O, S, R.all_mono (fun p q H1 O1 s1 S1 => ?_) (R.all_bind q)⟩
  cases e : p.1 with
  | true =>
    rw [e] at q
    exact iteT (q H1 O1 s1 S1)
  | false =>
    rw [e] at q
    exact iteF ⟨p.2, O1, S1, R.all_mono (fun p2 q H2 O2 s2 S2 => q H2 O2 (s1.trans s2 S2.hO) S2) q⟩
theorem w_tnot {a : MT} (σ : L2.St) (H : Hp) (Q : Bool → Hp → Prop) (q : TB G true (tNot a) σ H Q) : L2.tNot (TB G true a) σ H Q := by
  obtain ⟨st, O, S, q⟩ := q
  exact ⟨st, O, S, R.all_mono (fun p q H1 O1 s1 S1 => q H1 O1 s1 S1) (R.all_bind q)⟩
theorem w_mand {a b : ME} (σ : L2.St) (H : Hp) (Q : VK) (q : T G .sh true (mAnd a b) σ H Q) : L2.tAndV (T G .sh true a) (T G .sh true b) σ H Q := by
  obtain ⟨st, O, S, q⟩ := q
  refine ⟨st, O, S, R.all_mono (fun p q v H1 O1 s1 S1 r1 => ?_) (R.all_bind q)⟩
  cases e : p.1 with
  | bl c =>
    rw [e] at q r1
    refine ⟨c, bl_sh r1, ?_⟩
    cases c with
    | true => exact iteT ⟨p.2, O1, S1, R.all_mono (fun p2 q w H2 O2 s2 S2 r2 => q w H2 O2 (s1.trans s2 S2.hO) S2 r2) q⟩
    | false => exact iteF (q _ H1 O1 s1 S1 (.inl (.bl _)))
  | _ => rw [e] at q; exact q.elim
theorem w_mor {a b : ME} (σ : L2.St) (H : Hp) (Q : VK) (q : T G .sh true (mOr a b) σ H Q) : L2.tOrV (T G .sh true a) (T G .sh true b) σ H Q := by
  obtain ⟨st, O, S, q⟩ := q
  refine ⟨st, O, S, R.all_mono (fun p q v H1 O1 s1 S1 r1 => ?_) (R.all_bind q)⟩
  cases e : p.1 with
  | bl c =>
    rw [e] at q r1
    refine ⟨c, bl_sh r1, ?_⟩
    cases c with
    | true => exact iteT (q _ H1 O1 s1 S1 (.inl (.bl _)))
    | false => exact iteF ⟨p.2, O1, S1, R.all_mono (fun p2 q w H2 O2 s2 S2 r2 => q w H2 O2 (s1.trans s2 S2.hO) S2 r2) q⟩
  | _ => rw [e] at q; exact q.elim
theorem w_mnot {a : ME} (σ : L2.St) (H : Hp) (Q : VK) (q : T G .sh true (mNot a) σ H Q) : L2.tNotV (T G .sh true a) σ H Q := by
  obtain ⟨st, O, S, q⟩ := q
  refine ⟨st, O, S, R.all_mono (fun p q v H1 O1 s1 S1 r1 => ?_) (R.all_bind q)⟩
  cases e : p.1 with
  | bl c =>
    rw [e] at q r1
    exact ⟨c, bl_sh r1, q _ H1 O1 s1 S1 (.inl (.bl _))⟩
  | _ => rw [e] at q; exact q.elim
theorem w_if {t : MT} {a b : ME} (σ : L2.St) (H : Hp) (Q : VK) (q : T G k true (mIf t a b) σ H Q) : L2.tIf (TB G true t) (T G k true a) (T G k true b) σ H Q := by
  obtain ⟨st, O, S, q⟩ := q
  refine ⟨st, O, S, R.all_mono (fun p q H1 O1 s1 S1 => ?_) (R.all_bind q)⟩
  cases e : p.1 with
  | true =>
    rw [e] at q
    exact iteT ⟨p.2, O1, S1, R.all_mono (fun p2 q w H2 O2 s2 S2 r2 => q w H2 O2 (s1.trans s2 S2.hO) S2 r2) q⟩
  | false =>
    rw [e] at q
    exact iteF ⟨p.2, O1, S1, R.all_mono (fun p2 q w H2 O2 s2 S2 r2 => q w H2 O2 (s1.trans s2 S2.hO) S2 r2) q⟩
theorem w_chain {p q' : Int → Int → Bool} {a b c : ME} (σ : L2.St) (H : Hp) (Q : VK) (q : T G .sh true (mChain p q' a b c) σ H Q) :
    L2.tChain (rI0 fun i j => .bl (p i j)) (rI0 fun i j => .bl (q' i j)) (T G .br true a) (T G .br true b) (T G .br true c) σ H Q := by
  obtain ⟨st, O, S, q⟩ := q
  refine ⟨st, O, S, R.all_mono (fun x q v H1 O1 s1 S1 r1 => ?_) (R.all_bind q)⟩
  refine ⟨x.2, O1, S1, R.all_mono (fun y q w H2 O2 s2 S2 r2 => ?_) (R.all_bind q)⟩
  cases e : x.1 with
  | int i =>
    rw [e] at q r1
    cases f : y.1 with
    | int j =>
      rw [f] at q r2
      refine ⟨i, j, r1.int, r2.int, _, rfl, ?_⟩
      cases g : p i j with
      | true =>
        simp only [g] at q
        refine iteT ⟨y.2, O2, S2, R.all_mono (fun z q u H3 O3 s3 S3 r3 => ?_) (R.all_bind q)⟩
        cases h : z.1 with
        | int l =>
          rw [h] at q r3
          exact ⟨j, l, r2.int, r3.int, q _ H3 O3 ((s1.trans s2 S2.hO).trans s3 S3.hO) S3 (.inl (.bl _))⟩
        | _ => rw [h] at q; exact q.elim
      | false =>
        simp only [g] at q
        exact iteF (q _ H2 O2 (s1.trans s2 S2.hO) S2 (.inl (.bl _)))
    | _ => rw [f] at q; exact q.elim
  | _ => rw [e] at q; exact q.elim
end
/-! lists of expressions -/
abbrev ML := AS → R (List D × AS)
def lNil : ML := fun st => .ok ([], st)
def lCons (m : ME) (l : ML) : ML := fun st => (m st).bind fun p => (l p.2).bind fun q => .ok (p.1 :: q.1, q.2)
def mTup (l : ML) : ME := fun st => (l st).bind fun p => match lenOk p.1.length && p.1.all (fun d => !isH d) with | true => .ok (.tup p.1, p.2) | false => .bad
def mLst (l : ML) : ME := fun st => (l st).bind fun p => match lenOk p.1.length && p.1.all (fun d => !isH d) with | true => .ok (.lst p.1, p.2) | false => .bad
section
variable {X : Cx} {G : Cn} {pu : Bool}
theorem l_nil : PA X [] (TL G pu lNil) := PA.weak pa_nil fun σ H Q q => by
  obtain ⟨st, O, S, q⟩ := q
  exact q _ H O Stp.refl S .nil
theorem l_cons {e : Expr} {es : List Expr} {m : ME} {l : ML} (he : PE X e (T G .sh pu m)) (hl : PA X es (TL G pu l)) (hs : notStar e = true) : PA X (e :: es) (TL G pu (lCons m l)) := PA.weak (pa_cons he hl (star_of hs)) fun σ H Q q => by
  obtain ⟨st, O, S, q⟩ := q
  refine ⟨st, O, S, R.all_mono (fun p q v H1 O1 s1 S1 r1 => ?_) (R.all_bind q)⟩
  refine ⟨p.2, O1, S1, R.all_mono (fun p2 q vs H2 O2 s2 S2 r2 => ?_) (R.all_bind q)⟩
  exact q _ H2 O2 (s1.trans s2 S2.hO) S2 (.cons (S1.car s2 r1) r2)
theorem noH {K : PySem.W.Frag} {hd : Option Addr} {H : Hp} {F : Addr → Prop} : ∀ {vs : List V} {ds : List D}, ShRs K hd H F vs ds → ds.all (fun d => !isH d) = true → Shs K H F vs ds
  | _, _, .nil, _ => .nil
  | _, _, .cons h hs, e => by
    rw [List.all_cons, Bool.and_eq_true] at e
    rcases h with h | ⟨rfl, _⟩
    · exact .cons h (noH hs e.2)
    · cases e.1
theorem ShRs.length {K : PySem.W.Frag} {hd : Option Addr} {H : Hp} {F : Addr → Prop} : ∀ {vs : List V} {ds : List D}, ShRs K hd H F vs ds → vs.length = ds.length
  | _, _, .nil => rfl
  | _, _, .cons _ hs => congrArg (· + 1) (ShRs.length hs)
theorem w_tup {l : ML} (σ : L2.St) (H : Hp) (Q : VK) (q : T G .sh true (mTup l) σ H Q) : L2.tTup (TL G true l) σ H Q := by
  obtain ⟨st, O, S, q⟩ := q
  refine ⟨st, O, S, R.all_mono (fun p q vs H1 O1 s1 S1 r1 => ?_) (R.all_bind q)⟩
  cases e : (lenOk p.1.length && p.1.all (fun d => !isH d)) with
  | false => simp only [e] at q; exact q.elim
  | true =>
    simp only [e] at q
    rw [Bool.and_eq_true] at e
    refine ⟨by rw [r1.length]; exact Nat.le_of_lt (lenOk_le e.1), fun a ha => ?_⟩
    obtain ⟨s2, S2, r2⟩ := end_tup S1 ha (noH r1 e.2)
    exact q _ _ _ (s1.trans s2 S2.hO) S2 r2
theorem w_lst {l : ML} (σ : L2.St) (H : Hp) (Q : VK) (q : T G .ow true (mLst l) σ H Q) : L2.tLst (TL G true l) σ H Q := by
  obtain ⟨st, O, S, q⟩ := q
  refine ⟨st, O, S, R.all_mono (fun p q vs H1 O1 s1 S1 r1 => ?_) (R.all_bind q)⟩
  cases e : (lenOk p.1.length && p.1.all (fun d => !isH d)) with
  | false => simp only [e] at q; exact q.elim
  | true =>
    simp only [e] at q
    rw [Bool.and_eq_true] at e
    refine ⟨by rw [r1.length]; exact Nat.le_of_lt (lenOk_le e.1), fun a ha => ?_⟩
    obtain ⟨s2, S2, r2⟩ := end_lst S1 ha (noH r1 e.2)
    exact q _ _ _ (s1.trans s2 S2.hO) S2 r2
end
end EV
/-! what is walked, targets, comprehensions -/
namespace EV
open PySem PySem.Spec PyProof.Rows L2
/-! targets -/
inductive Pat where
  | nm (i : Nat) | nil | cons (p q : Pat) | tp (p : Pat)
/-- one value to a target; a list of values to a list of targets -/
def asg : Pat → D → AS → Option AS
  | .nm i, d, st => some (st.set i (some d))
  | .tp p, d, st => match d with | .tup ds => asg p (.lst ds) st | .lst ds => asg p (.lst ds) st | _ => none
  | .nil, d, st => match d with | .lst [] => some st | _ => none
  | .cons p q, d, st => match d with | .lst (x :: xs) => (match asg p x st with | some st' => asg q (.lst xs) st' | none => none) | _ => none
def pslots : Pat → List Nat
  | .nm i => [i]
  | .nil => []
  | .cons p q => pslots p ++ pslots q
  | .tp p => pslots p
/-- the shape of a target -/
def plen : Pat → Option Nat
  | .nil => some 0
  | .cons _ q => (plen q).map (· + 1)
  | _ => none
def isTp : Pat → Bool
  | .nil => false
  | .cons .. => false
  | _ => true
def isNm : Pat → Bool
  | .nm _ => true
  | _ => false
structure Same2 (σ σ' : L2.St) (vs : List Nat) : Prop where
  len : σ'.length = σ.length
  out : ∀ j : Nat, j ∉ vs → σ'[j]? = σ[j]?
theorem Same2.refl {σ : L2.St} {vs : List Nat} : Same2 σ σ vs := ⟨rfl, fun _ _ => rfl⟩
theorem Same2.mono {σ σ' : L2.St} {vs ws : List Nat} (h : Same2 σ σ' vs) (hs : ∀ j ∈ vs, j ∈ ws) : Same2 σ σ' ws := ⟨h.len, fun j hj => h.out j fun z => hj (hs j z)⟩
theorem Same2.trans {σ σ1 σ2 : L2.St} {vs : List Nat} (a : Same2 σ σ1 vs) (b : Same2 σ1 σ2 vs) : Same2 σ σ2 vs := ⟨b.len.trans a.len, fun j hj => (b.out j hj).trans (a.out j hj)⟩
def TPat (G : Cn) (p : Pat) : TG := fun v σ H Q => ∃ st O d st', SR G st σ H O ∧ ShR G.K G.hd H (G.F O) v d ∧ asg p d st = some st' ∧ ∀ σ', SR G st' σ' H O → Same2 σ σ' (pslots p) → Q σ' H
def TPats (G : Cn) (p : Pat) : TGs := fun vs σ H Q => ∃ st O ds st', SR G st σ H O ∧ ShRs G.K G.hd H (G.F O) vs ds ∧ asg p (.lst ds) st = some st' ∧ ∀ σ', SR G st' σ' H O → Same2 σ σ' (pslots p) → Q σ' H
theorem PG.weak {X : Cx} {e : Expr} {t t' : TG} (h : PG X e t) (w : ∀ v σ H Q, t' v σ H Q → t v σ H Q) : PG X e t' := ⟨fun pins s σ H v u Q I r q => h.run pins s σ H v u Q I r (w v σ H Q q)⟩
theorem PGs.weak {X : Cx} {e : List Expr} {t t' : TGs} (h : PGs X e t) (w : ∀ v σ H Q, t' v σ H Q → t v σ H Q) : PGs X e t' := ⟨fun pins s σ H v u Q I r q => h.run pins s σ H v u Q I r (w v σ H Q q)⟩
theorem Shs.up {K : PySem.W.Frag} {hd : Option Addr} {H : Hp} {F : Addr → Prop} : ∀ {vs : List V} {ds : List D}, Shs K H F vs ds → ShRs K hd H F vs ds
  | _, _, .nil => .nil
  | _, _, .cons h hs => .cons (.inl h) (Shs.up hs)
section
variable {X : Cx} {G : Cn}
theorem g_nm {i : Nat} {e : Expr} (h : PG X e (gName i)) (hk : G.kd i = false) : PG X e (TPat G (.nm i)) := PG.weak h fun v σ H Q q => by
  obtain ⟨st, O, d, st', S, r, e1, q⟩ := q
  cases e1
  exact q _ (S.putS hk r) ⟨by simp, fun j hj => List.getElem?_set_ne (fun z => hj (by simp [pslots, z]))⟩
theorem g_nil : PGs X [] (TPats G .nil) := PGs.weak pgs_nil fun vs σ H Q q => by
  obtain ⟨st, O, ds, st', S, r, e1, q⟩ := q
  cases ds with
  | nil => cases r; cases e1; exact ⟨rfl, q σ S Same2.refl⟩
  | cons x xs => cases e1
theorem g_cons {e : Expr} {es : List Expr} {p p2 : Pat} (h : PG X e (TPat G p)) (h2 : PGs X es (TPats G p2)) (hs : notStar e = true) : PGs X (e :: es) (TPats G (.cons p p2)) := by
  have hs' : (assignEach (e :: es) X.env).map (·.2) = assign e X.env :: (assignEach es X.env).map (·.2) := by
    cases e <;> first | rfl | cases hs
  refine PGs.weak (pgs_cons h h2 hs') fun vs σ H Q q => ?_
  obtain ⟨st, O, ds, st', S, r, e1, q⟩ := q
  cases ds with
  | nil => cases e1
  | cons x xs =>
    cases r with
    | cons r1 r2 =>
      have e1 : (match asg p x st with | some st' => asg p2 (.lst xs) st' | none => none) = some st' := e1
      cases e2 : asg p x st with
      | none => rw [e2] at e1; cases e1
      | some st1 =>
        rw [e2] at e1
        refine ⟨_, _, rfl, st, O, x, st1, S, r1, e2, fun σ1 S1 m1 => ⟨st1, O, xs, st', S1, r2, e1, fun σ2 S2 m2 => q σ2 S2 ?_⟩⟩
        exact (m1.mono fun j hj => by simp [pslots, hj]).trans (m2.mono fun j hj => by simp [pslots, hj])
theorem len_asg {es : List Expr} {env : Env} : (assignEach es env).length = es.length := by
  induction es with
  | nil => rfl
  | cons e es ih => cases e <;> exact congrArg (· + 1) ih
theorem star_asg {es : List Expr} {env : Env} (h : es.all notStar = true) : (assignEach es env).findIdx? (·.1) = none := by
  have : (assignEach es env).any (·.1) = false := by
    induction es with
    | nil => rfl
    | cons e es ih =>
      rw [List.all_cons, Bool.and_eq_true] at h
      have := ih h.2
      cases e <;> first | (show (false || _) = false; rw [Bool.false_or]; exact this) | cases h.1
  rw [List.findIdx?_eq_none_iff]
  intro x hx
  cases e : x.1 with
  | false => rfl
  | true =>
    have : (assignEach es env).any (·.1) = true := List.any_eq_true.mpr ⟨x, hx, e⟩
    simp_all
theorem plen_asg : ∀ {p : Pat} {n : Nat} {d : D} {st st' : AS}, plen p = some n → asg p d st = some st' → ∃ ds, d = .lst ds ∧ ds.length = n
  | .nil, n, d, st, st', h, e => by
    cases h
    cases d with
    | lst ds => cases ds with | nil => exact ⟨[], rfl, rfl⟩ | cons _ _ => cases e
    | _ => cases e
  | .cons p q, n, d, st, st', h, e => by
    obtain ⟨m, hm, rfl⟩ := Option.map_eq_some_iff.mp (show (plen q).map (· + 1) = some n from h)
    cases d with
    | lst ds =>
      cases ds with
      | nil => cases e
      | cons x xs =>
        have e : (match asg p x st with | some st' => asg q (.lst xs) st' | none => none) = some st' := e
        cases e2 : asg p x st with
        | none => rw [e2] at e; cases e
        | some st1 =>
          rw [e2] at e
          obtain ⟨ds, h1, h2⟩ := plen_asg hm e
          cases h1
          exact ⟨_, rfl, by rw [List.length_cons, h2]⟩
    | _ => cases e
  | .nm _, _, _, _, _, h, _ => nomatch h
  | .tp _, _, _, _, _, h, _ => nomatch h
theorem pg_or {e : Expr} {t t' : TG} (h : PG X e t) (h' : PG X e t') : PG X e (fun v σ H Q => t v σ H Q ∨ t' v σ H Q) := ⟨fun pins s σ H v u Q I r q => q.elim (h.run pins s σ H v u Q I r) (h'.run pins s σ H v u Q I r)⟩
theorem g_tup {es : List Expr} {k : Nat} {pos : Pos} {p : Pat} (hK : X.K = G.K) (hc : X.calm = true) (h : PGs X es (TPats G p)) (hl : plen p = some es.length) (hst : es.all notStar = true) : PG X (.Tuple es k pos) (TPat G (.tp p)) := by
  refine PG.weak (pg_or (pg_tup (n := es.length) hc h len_asg (star_asg hst)) (pg_unl (n := es.length) hc h len_asg (star_asg hst))) fun v σ H Q q => ?_
  obtain ⟨st, O, d, st', S, r, e1, q⟩ := q
  cases d with
  | tup ds =>
    have e1 : asg p (.lst ds) st = some st' := e1
    obtain ⟨a, vs, rfl, ha, hvs⟩ := VR.tup (st := st) (σ := σ) (.inl r)
    obtain ⟨ds', h1, h2⟩ := plen_asg hl e1
    cases h1
    exact .inl ⟨a, vs, rfl, by rw [hK]; exact ha, by rw [hvs.length, h2], st, O, ds, st', S, hvs.up, e1, q⟩
  | lst ds =>
    have e1 : asg p (.lst ds) st = some st' := e1
    obtain ⟨a, vs, rfl, ha, hvs⟩ := VR.lst (st := st) (σ := σ) (.inl r)
    obtain ⟨ds', h1, h2⟩ := plen_asg hl e1
    cases h1
    exact .inr ⟨a, vs, rfl, .inl ha, by rw [hvs.length, h2], st, O, ds, st', S, hvs.up, e1, q⟩
  | _ => cases e1
end
/-! sources -/
abbrev MI := AS → R (List D × AS)
abbrev Cn.at (G : Cn) (B : Addr → Prop) : Cn := { G with B := B }
structure ItOk (G : Cn) (pl : Bool) (J : It) (ds : List D) (H0 : Hp) (O0 : Addr → Prop) : Prop where
  ex : ∃ W : (Addr → Prop) → Hp → (Addr → Prop) → Prop, W G.B H0 O0 ∧ (∀ B (st : AS) (σ : L2.St) H O H' O', W B H O → SR (G.at B) st σ H O → Stp pl G.hd O H O' H' → W B H' O') ∧
    (∀ B (i : Nat) (st : AS) (σ : L2.St) H O, W B H O → SR (G.at B) st σ H O → (i < ds.length → J.go i H ∧ ∀ x H', J.yld i H x H' → ∃ d, ds[i]? = some d ∧ Stp true G.hd O H O H' ∧ SR (G.at B) st σ H' O ∧ ShR G.K G.hd H' ((G.at B).F O) x d) ∧ (ds.length ≤ i → J.stop i H)) ∧
    (∀ B (A : Addr) (st : AS) (σ : L2.St) H O, W B H O → SR (G.at B) st σ H O → H A = none → W (fun b => B b ∨ b = A) (upd H A (.lst [])) O) ∧
    ∀ B (A : Addr) (ys : List V) H O, W B H O → B A → (∃ xs, H A = some (.lst xs)) → W B (upd H A (.lst ys)) O
def TSrc (G : Cn) (pu pl : Bool) (m : MI) : TI := fun σ H R => ∃ st O, SR G st σ H O ∧ (m st).all fun p => ∀ J H' O', Stp pu G.hd O H O' H' → SR G p.2 σ H' O' → ItOk G pl J p.1 H' O' → R J H'
def sSeq (m : ME) : MI := fun st => (m st).bind fun p => match p.1 with | .lst xs => .ok (xs, p.2) | .tup xs => .ok (xs, p.2) | _ => .bad
def rng (lo : Int) : Nat → List D
  | 0 => []
  | n + 1 => .int lo :: rng (lo + 1) n
theorem rng_get : ∀ {n : Nat} {lo : Int} {i : Nat}, i < n → (rng lo n)[i]? = some (.int (lo + i))
  | 0, _, _, h => absurd h (Nat.not_lt_zero _)
  | n + 1, lo, 0, _ => by show some (D.int lo) = _; simp
  | n + 1, lo, i + 1, h => by
    show (rng (lo + 1) n)[i]? = _
    rw [rng_get (Nat.lt_of_succ_lt_succ h)]
    congr 2
    omega
theorem rng_len : ∀ {n : Nat} {lo : Int}, (rng lo n).length = n
  | 0, _ => rfl
  | n + 1, lo => by show (rng (lo + 1) n).length + 1 = _; rw [rng_len]
def fits62 (i : Int) : Bool := decide (-(2 ^ 62) ≤ i) && decide (i < 2 ^ 62)
def sR1 (m : ME) : MI := fun st => (m st).bind fun p => match p.1 with | .int n => (match fits62 n with | true => .ok (rng 0 n.toNat, p.2) | false => .bad) | _ => .bad
def sR2 (a b : ME) : MI := fun st => (a st).bind fun p => (b p.2).bind fun q => match p.1 with
  | .int i => match q.1 with
    | .int j => match fits62 i && fits62 j with | true => .ok (rng i (j - i).toNat, q.2) | false => .bad
    | _ => .bad
  | _ => .bad
def zipD : List D → List D → List D
  | x :: xs, ys => match ys with | y :: ys => .tup [x, y] :: zipD xs ys | [] => []
  | [], _ => []
theorem zipD_get : ∀ {xs ys : List D} {i : Nat} {x y : D}, xs[i]? = some x → ys[i]? = some y → (zipD xs ys)[i]? = some (.tup [x, y])
  | [], _, _, _, _, h, _ => by simp at h
  | _ :: _, [], _, _, _, _, h => by simp at h
  | a :: xs, b :: ys, 0, x, y, h, h2 => by simp at h h2; subst h h2; rfl
  | a :: xs, b :: ys, i + 1, x, y, h, h2 => by
    show (zipD xs ys)[i]? = _
    exact zipD_get (by simpa using h) (by simpa using h2)
theorem zipD_len : ∀ {xs ys : List D}, (zipD xs ys).length = min xs.length ys.length
  | [], _ => by simp [zipD]
  | _ :: _, [] => by simp [zipD]
  | a :: xs, b :: ys => by
    show (zipD xs ys).length + 1 = _
    rw [zipD_len, List.length_cons, List.length_cons]
    omega
def sZip (a b : ME) : MI := fun st => (a st).bind fun p => (b p.2).bind fun q => match p.1 with
  | .lst xs => match q.1 with | .lst ys => .ok (zipD xs ys, q.2) | _ => .bad
  | .tup xs => match q.1 with | .tup ys => .ok (zipD xs ys, q.2) | _ => .bad
  | _ => .bad
def enumD (i : Int) : List D → List D
  | [] => []
  | x :: xs => .tup [.int i, x] :: enumD (i + 1) xs
theorem enumD_get : ∀ {xs : List D} {i : Nat} {k : Int} {x : D}, xs[i]? = some x → (enumD k xs)[i]? = some (.tup [.int (k + i), x])
  | [], _, _, _, h => by simp at h
  | a :: xs, 0, k, x, h => by simp at h; subst h; show some _ = _; simp
  | a :: xs, i + 1, k, x, h => by
    show (enumD (k + 1) xs)[i]? = _
    rw [enumD_get (by simpa using h)]
    congr 4
    omega
theorem enumD_len : ∀ {xs : List D} {k : Int}, (enumD k xs).length = xs.length
  | [], _ => rfl
  | a :: xs, k => by show (enumD (k + 1) xs).length + 1 = _; rw [enumD_len]; rfl
def sEnum (m : ME) : MI := fun st => (m st).bind fun p => match p.1 with | .lst xs => .ok (enumD 0 xs, p.2) | _ => .bad
theorem PI.weak {X : Cx} {tg e : Expr} {t t' : TI} (h : PI X tg e t) (w : ∀ σ H R, t' σ H R → t σ H R) : PI X tg e t' := ⟨fun pins s σ H Q I q => h.run pins s σ H Q I (w σ H Q q)⟩
section
variable {X : Cx} {G : Cn} {tg : Expr}
theorem sql_inj {H : Hp} {a : Addr} {xs ys : List V} (h : Rd H a (.lst xs)) (h' : Rd H a (.lst ys)) : xs = ys := by
  rcases h with h | ⟨o, h⟩ <;> rcases h' with h' | ⟨o', h'⟩ <;> rw [h] at h' <;> cases h' <;> rfl
theorem rd_upd {H : Hp} {A a : Addr} {o u : HO} (hA : H A = none) (h : Rd H a u) : Rd (upd H A o) a u := h.imp (fun q => upd_keep hA a _ q) fun ⟨c, q⟩ => ⟨c, upd_keep hA a _ q⟩
theorem rd_ne {H : Hp} {A a : Addr} {u : HO} (hA : H A = none) (h : Rd H a u) : a ≠ A := by
  rintro rfl
  rcases h with h | ⟨o, h⟩ <;> rw [hA] at h <;> cases h
theorem shs_add {K : PySem.W.Frag} {H : Hp} {A : Addr} {o : HO} {B O : Addr → Prop} (hA : H A = none) {vs : List V} {ds : List D} (h : Shs K H (fun b => B b ∨ O b) vs ds) : Shs K (upd H A o) (fun b => (B b ∨ b = A) ∨ O b) vs ds :=
  h.step (fun a u r _ => rd_upd hA r) fun a xs r z => by
    rcases z with (z | z) | z
    · exact .inl z
    · exact absurd z (rd_ne hA r)
    · exact .inr z
theorem rd_set {H : Hp} {A a : Addr} {o u : HO} (hne : a ≠ A) (h : Rd H a u) : Rd (upd H A o) a u := h.imp (fun q => by rw [upd_ne hne]; exact q) fun ⟨c, q⟩ => ⟨c, by rw [upd_ne hne]; exact q⟩
theorem shs_set {K : PySem.W.Frag} {H : Hp} {A : Addr} {ys : List V} {F : Addr → Prop} (hF : F A) (hA : ∃ xs, H A = some (.lst xs)) {vs : List V} {ds : List D} (h : Shs K H F vs ds) : Shs K (upd H A (.lst ys)) F vs ds :=
  h.step (fun a u r n => rd_set (by
    rintro rfl
    obtain ⟨xs, e⟩ := hA
    rcases r with r | ⟨o, r⟩
    · rw [e] at r; cases r; exact n xs rfl hF
    · rw [e] at r; cases r) r) fun a xs r z => z
theorem sh_set {K : PySem.W.Frag} {H : Hp} {A : Addr} {ys : List V} {F : Addr → Prop} (hF : F A) (hA : ∃ xs, H A = some (.lst xs)) {v : V} {d : D} (h : Sh K H F v d) : Sh K (upd H A (.lst ys)) F v d := by
  have := shs_set (ys := ys) hF hA (.cons h .nil)
  cases this
  assumption
theorem it_list {pl : Bool} {a : Addr} {vs : List V} {ds : List D} {H : Hp} {O : Addr → Prop} (hr : Rd H a (.lst vs)) (hf : pl = true ∨ ¬ G.F O a) (hh : ¬ G.B a) (hn : ∀ x, G.hd = some x → G.B x) (hs : Shs G.K H (G.F O) vs ds) : ItOk G pl (Itl G.K a) ds H O := by
  refine ⟨fun B H O => Rd H a (.lst vs) ∧ (pl = true ∨ ¬ O a) ∧ ¬ B a ∧ (∀ x, G.hd = some x → B x) ∧ Shs G.K H ((G.at B).F O) vs ds, ⟨hr, hf.imp id (fun z y => z (.inr y)), hh, hn, hs⟩, ?_, ?_, ?_, ?_⟩
  · rintro B st σ H O H' O' ⟨h1, h2, h3, h4, h5⟩ S sp
    refine ⟨?_, ?_, h3, h4, S.cars0 sp h5⟩
    · rcases h1 with h1 | ⟨o, h1⟩
      · exact .inl (sp.pr a _ h1 h2 fun z => h3 (h4 a z))
      · exact .inr ⟨o, sp.pr a _ h1 h2 fun z => h3 (h4 a z)⟩
    · rcases h2 with h2 | h2
      · exact .inl h2
      · refine .inr fun z => ?_
        rcases sp.nw a z with z | z
        · exact h2 z
        · rcases h1 with h1 | ⟨o, h1⟩ <;> rw [z] at h1 <;> cases h1
  · rintro B i st σ H O ⟨h1, h2, h3, h4, h5⟩ S
    refine ⟨fun hi => ?_, fun hi => ⟨vs, .inl h1, by rw [h5.length]; exact hi⟩⟩
    obtain ⟨v, e1, r1⟩ := h5.get (List.getElem?_eq_getElem hi)
    refine ⟨⟨vs, v, .inl h1, e1⟩, ?_⟩
    rintro x H' ⟨rfl, hy⟩
    refine ⟨_, List.getElem?_eq_getElem hi, Stp.refl, S, .inl ?_⟩
    have := hy vs (.inl h1)
    rw [e1] at this
    cases this
    exact r1
  · rintro B A st σ H O ⟨h1, h2, h3, h4, h5⟩ S hA
    exact ⟨rd_upd hA h1, h2, fun z => z.elim h3 (rd_ne hA h1), fun x e => .inl (h4 x e), shs_add hA h5⟩
  · rintro B A ys H O ⟨h1, h2, h3, h4, h5⟩ hB hA
    exact ⟨rd_set (fun z => h3 (z ▸ hB)) h1, h2, h3, h4, shs_set (.inl hB) hA h5⟩
theorem sqt_upd {K : PySem.W.Frag} {H : Hp} {A a : Addr} {o : HO} {xs : List V} (hA : H A = none) (h : SqT K H a xs) : SqT K (upd H A o) a xs := h.imp (rd_upd hA) id
theorem sqt_set {K : PySem.W.Frag} {H : Hp} {A a : Addr} {ys xs : List V} (hA : ∃ xs, H A = some (.lst xs)) (h : SqT K H a xs) : SqT K (upd H A (.lst ys)) a xs := h.imp (fun r => rd_set (by
  rintro rfl
  obtain ⟨zs, e⟩ := hA
  rcases r with r | ⟨o, r⟩ <;> rw [e] at r <;> cases r) r) id
theorem it_tup {pl : Bool} {a : Addr} {vs : List V} {ds : List D} {H : Hp} {O : Addr → Prop} (hr : SqT G.K H a vs) (hs : Shs G.K H (G.F O) vs ds) : ItOk G pl (Itt G.K a) ds H O := by
  refine ⟨fun B H O => SqT G.K H a vs ∧ Shs G.K H ((G.at B).F O) vs ds, ⟨hr, hs⟩, ?_, ?_, ?_, ?_⟩
  · rintro B st σ H O H' O' ⟨h1, h3⟩ S sp
    refine ⟨h1.imp (fun q => (S.stp sp).1 a _ q fun xs e => nomatch e) id, S.cars0 sp h3⟩
  · rintro B i st σ H O ⟨h1, h3⟩ S
    refine ⟨fun hi => ?_, fun hi => ⟨vs, h1, by rw [h3.length]; exact hi⟩⟩
    obtain ⟨v, e1, r1⟩ := h3.get (List.getElem?_eq_getElem hi)
    refine ⟨⟨vs, v, h1, e1⟩, ?_⟩
    rintro x H' ⟨rfl, hy⟩
    refine ⟨_, List.getElem?_eq_getElem hi, Stp.refl, S, .inl ?_⟩
    have := hy vs h1
    rw [e1] at this
    cases this
    exact r1
  · rintro B A st σ H O ⟨h1, h3⟩ S hA
    exact ⟨sqt_upd hA h1, shs_add hA h3⟩
  · rintro B A ys H O ⟨h1, h3⟩ hB hA
    exact ⟨sqt_set hA h1, shs_set (.inl hB) hA h3⟩
theorem it_rng {pl : Bool} {lo : Int} {n : Nat} {H : Hp} {O : Addr → Prop} : ItOk G pl (Itr lo n) (rng lo n) H O := by
  refine ⟨fun _ _ _ => True, trivial, fun _ _ _ _ _ _ _ _ _ _ => trivial, fun B i st σ H O _ S => ⟨fun hi => ?_, fun hi => by rw [rng_len] at hi; exact hi⟩, fun _ _ _ _ _ _ _ _ _ => trivial, fun _ _ _ _ _ _ _ _ => trivial⟩
  rw [rng_len] at hi
  refine ⟨hi, ?_⟩
  rintro x H' ⟨rfl, rfl⟩
  exact ⟨_, rng_get hi, Stp.refl, S, .inl (.int _)⟩
end
end EV
namespace EV
open PySem PySem.Spec PyProof.Rows L2 RZ
section
variable {X : Cx} {G : Cn} {tg : Expr}
/-- a list or a tuple is walked -/
def iSeq (K : PySem.W.Frag) (tl : TE) : TI := fun σ H Z => tl σ H fun x H1 => ∃ a, x = .ref a ∧ (((∃ xs, SqL K H1 a xs) ∧ Z (Itl K a) H1) ∨ ((∃ xs, SqT K H1 a xs) ∧ Z (Itt K a) H1))
theorem pi_seq {l : Expr} {tl : TE} (hl : PE X l tl) : PI X tg l (iSeq X.K tl) := by
  refine ⟨fun pins s σ H Z I h => thn (hl.run pins s σ H _ I h) fun v s1 z => ?_⟩
  obtain ⟨x, H1, I1, r1, a, rfl, q⟩ := z
  cases r1
  have fp : ∀ b ∈ [s1.heap.objs.size], FpOk X pins H1 b := fun b hb => by
    cases List.mem_singleton.mp hb
    exact I1.fpOk (Nat.le_refl _) (I1.hok.fresh (Nat.le_refl _))
  rcases q with ⟨⟨xs, hq⟩, q⟩ | ⟨⟨xs, hq⟩, q⟩
  · obtain ⟨its, rv, p, hz⟩ := I1.list hq
    exact wpAny_pyIter_list p.isList ⟨_, _, _, _, H1, rfl, I1.kept (t' := s1.toks) (fun b o e => Heap.get?_push_of_some _ e), turn_list a _, ⟨_, Heap.get?_push_size _ rfl, rfl, rfl⟩, fp, q⟩
  · obtain ⟨its, rv, p, hz⟩ := I1.tuple hq
    exact wpAny_pyIter_tuple p ⟨_, _, _, _, H1, rfl, I1.kept (t' := s1.toks) (fun b o e => Heap.get?_push_of_some _ e), turn_tuple a _, ⟨_, Heap.get?_push_size _ rfl, rfl, rfl⟩, fp, q⟩
theorem i_sh {e : Expr} {m : ME} {pu : Bool} (hK : X.K = G.K) (h : PE X e (T G .sh pu m)) : PI X tg e (TSrc G pu false (sSeq m)) := PI.weak (pi_seq h) fun σ H Z q => by
  obtain ⟨st, O, S, q⟩ := q
  refine ⟨st, O, S, R.all_mono (fun p q v H1 O1 s1 S1 r1 => ?_) (R.all_bind q)⟩
  rw [hK]
  cases e : p.1 with
  | lst xs =>
    rw [e] at q r1
    rcases r1 with r1 | ⟨z, _⟩
    · cases r1 with
      | lst hr hf hs => exact ⟨_, rfl, .inl ⟨⟨_, .inl hr⟩, q _ H1 O1 s1 S1 (it_list hr (.inr hf) (fun z => hf (.inl z)) (fun x e => (S1.hn x e).1.1) hs)⟩⟩
    · cases z
  | tup xs =>
    rw [e] at q r1
    rcases r1 with r1 | ⟨z, _⟩
    · cases r1 with
      | tup hr hs => exact ⟨_, rfl, .inr ⟨⟨_, hr⟩, q _ H1 O1 s1 S1 (it_tup hr hs)⟩⟩
    · cases z
  | _ => rw [e] at q; exact q.elim
theorem i_br {e : Expr} {m : ME} (hK : X.K = G.K) (h : PE X e (T G .br true m)) : PI X tg e (TSrc G true true (sSeq m)) := PI.weak (pi_seq h) fun σ H Z q => by
  obtain ⟨st, O, S, q⟩ := q
  refine ⟨st, O, S, R.all_mono (fun p q v H1 O1 s1 S1 r1 => ?_) (R.all_bind q)⟩
  rw [hK]
  cases e : p.1 with
  | lst xs =>
    rw [e] at q r1
    rcases r1 with (r1 | ⟨z, _⟩) | ⟨a, ds, vs, rfl, e2, hh, hr, hs⟩
    · cases r1 with
      | lst hr hf hs => exact ⟨_, rfl, .inl ⟨⟨_, .inl hr⟩, q _ H1 O1 s1 S1 (it_list hr (.inl rfl) (fun z => hf (.inl z)) (fun x e => (S1.hn x e).1.1) hs)⟩⟩
    · cases z
    · cases e2
      exact ⟨_, rfl, .inl ⟨⟨_, .inl hr⟩, q _ H1 O1 s1 S1 (it_list hr (.inl rfl) hh (fun x e => (S1.hn x e).1.1) hs)⟩⟩
  | tup xs =>
    rw [e] at q r1
    obtain ⟨a, vs, rfl, hr, hs⟩ := r1.tup
    exact ⟨_, rfl, .inr ⟨⟨_, hr⟩, q _ H1 O1 s1 S1 (it_tup hr hs)⟩⟩
  | _ => rw [e] at q; exact q.elim
theorem i_r1 {a : Expr} {m : ME} {p pos : Pos} {pl : Bool} (hg : Gl X "range") (hm : X.mg "range" = none) (ha : PE X a (T G .sh true m)) (hs : notStar a = true) : PI X tg (.Call (.Name "range" p) [a] [] pos) (TSrc G true pl (sR1 m)) :=
  PI.weak (pi_range1 hg hm (pa_cons ha pa_nil (star_of hs)) (star_of hs)) fun σ H Z q => by
  obtain ⟨st, O, S, q⟩ := q
  refine ⟨st, O, S, R.all_mono (fun p q v H1 O1 s1 S1 r1 => ?_) (R.all_bind q)⟩
  cases e : p.1 with
  | int n =>
    rw [e] at q r1
    cases f : fits62 n with
    | true =>
      simp only [f] at q
      have f' := f
      unfold fits62 at f'
      rw [Bool.and_eq_true, decide_eq_true_eq, decide_eq_true_eq] at f'
      refine ⟨n, by rw [VR.int (st := st) (σ := σ) (.inl r1)], f'.1, f'.2, q _ H1 O1 s1 S1 it_rng⟩
    | false => simp only [f] at q; exact q.elim
  | _ => rw [e] at q; exact q.elim
theorem i_r2 {a b : Expr} {m n : ME} {p pos : Pos} {pl : Bool} (hg : Gl X "range") (hm : X.mg "range" = none) (ha : PE X a (T G .sh true m)) (hb : PE X b (T G .sh true n)) (hs : notStar a = true) (hs2 : notStar b = true) :
    PI X tg (.Call (.Name "range" p) [a, b] [] pos) (TSrc G true pl (sR2 m n)) :=
  PI.weak (pi_range2 hg hm (pa_cons ha (pa_cons hb pa_nil (star_of hs2)) (star_of hs)) (by rw [star_of hs, star_of hs2]; rfl) (star_of hs2)) fun σ H Z q => by
  obtain ⟨st, O, S, q⟩ := q
  refine ⟨st, O, S, R.all_mono (fun p q v H1 O1 s1 S1 r1 => ?_) (R.all_bind q)⟩
  refine ⟨p.2, O1, S1, R.all_mono (fun p2 q w H2 O2 s2 S2 r2 => ?_) (R.all_bind q)⟩
  cases e : p.1 with
  | int i =>
    rw [e] at q r1
    cases e2 : p2.1 with
    | int j =>
      rw [e2] at q r2
      cases f : (fits62 i && fits62 j) with
      | true =>
        simp only [f] at q
        have f' := f
        unfold fits62 at f'
        rw [Bool.and_eq_true, Bool.and_eq_true, Bool.and_eq_true, decide_eq_true_eq, decide_eq_true_eq, decide_eq_true_eq, decide_eq_true_eq] at f'
        refine ⟨i, j, by rw [VR.int (st := st) (σ := σ) (.inl r1), VR.int (st := st) (σ := σ) (.inl r2)], ⟨f'.1.1, f'.1.2, f'.2.1, f'.2.2⟩, q _ H2 O2 (s1.trans s2 S2.hO) S2 it_rng⟩
      | false => simp only [f] at q; exact q.elim
    | _ => rw [e2] at q; exact q.elim
  | _ => rw [e] at q; exact q.elim
/-- a new pair a turn -/
theorem yld_pair {st : AS} {σ : L2.St} {H H' : Hp} {O : Addr → Prop} {A : Addr} {x y v : V} {d e : D} (S : SR G st σ H O) (hx : Sh G.K H (G.F O) x d) (hy : Sh G.K H (G.F O) y e) (hT : H A = none) (h1 : v = .ref A) (h2 : H' = upd H A (.tup [x, y])) :
    Stp true G.hd O H O H' ∧ SR G st σ H' O ∧ ShR G.K G.hd H' (G.F O) v (.tup [d, e]) := by
  subst h1 h2
  exact end_tup S hT (.cons hx (.cons hy .nil))
theorem min_get {xs ys : List D} {i : Nat} (h : i < (zipD xs ys).length) : i < xs.length ∧ i < ys.length := by
  rw [zipD_len] at h
  omega
theorem stab {H H' : Hp} {O O' : Addr → Prop} {st : AS} {σ : L2.St} {a : Addr} {vs : List V} (S : SR G st σ H O) (sp : Stp false G.hd O H O' H') (h1 : Rd H a (.lst vs)) (h2 : ¬ G.F O a) : Rd H' a (.lst vs) ∧ ¬ G.F O' a := by
  refine ⟨?_, fun z => ?_⟩
  · rcases h1 with h1 | ⟨o, h1⟩
    · exact .inl (sp.pr a _ h1 (.inr fun y => h2 (.inr y)) fun z => h2 (S.hF a z))
    · exact .inr ⟨o, sp.pr a _ h1 (.inr fun y => h2 (.inr y)) fun z => h2 (S.hF a z)⟩
  · rcases z with z | z
    · exact h2 (.inl z)
    · rcases sp.nw a z with z | z
      · exact h2 (.inr z)
      · rcases h1 with h1 | ⟨o, h1⟩ <;> rw [z] at h1 <;> cases h1
theorem nF_add {B O : Addr → Prop} {H : Hp} {A a : Addr} {u : HO} (hA : H A = none) (h : Rd H a u) (n : ¬ (G.at B).F O a) : ¬ (G.at fun b => B b ∨ b = A).F O a := fun z => by
  rcases z with (z | z) | z
  · exact n (.inl z)
  · exact rd_ne hA h z
  · exact n (.inr z)
theorem it_zip {H : Hp} {O : Addr → Prop} {a b : Addr} {vs ws : List V} {xs ys : List D} (ha : Rd H a (.lst vs)) (na : ¬ G.F O a) (hb : Rd H b (.lst ws)) (nb : ¬ G.F O b) (hx : Shs G.K H (G.F O) vs xs) (hy : Shs G.K H (G.F O) ws ys) : ItOk G false (Itz G.K a b) (zipD xs ys) H O := by
  refine ⟨fun B H O => (Rd H a (.lst vs) ∧ ¬ (G.at B).F O a) ∧ (Rd H b (.lst ws) ∧ ¬ (G.at B).F O b) ∧ Shs G.K H ((G.at B).F O) vs xs ∧ Shs G.K H ((G.at B).F O) ws ys, ⟨⟨ha, na⟩, ⟨hb, nb⟩, hx, hy⟩, ?_, ?_, ?_, ?_⟩
  · rintro B st σ H O H' O' ⟨⟨h1, h2⟩, ⟨h3, h4⟩, h5, h6⟩ S sp
    exact ⟨stab S sp h1 h2, stab S sp h3 h4, S.cars0 sp h5, S.cars0 sp h6⟩
  · rintro B i st σ H O ⟨⟨h1, h2⟩, ⟨h3, h4⟩, h5, h6⟩ S
    refine ⟨fun hi => ?_, fun hi => ⟨vs, ws, .inl h1, .inl h3, by rw [zipD_len] at hi; rw [h5.length, h6.length]; omega⟩⟩
    obtain ⟨i1, i2⟩ := min_get hi
    obtain ⟨v, e1, r1⟩ := h5.get (List.getElem?_eq_getElem i1)
    obtain ⟨w, e2, r2⟩ := h6.get (List.getElem?_eq_getElem i2)
    refine ⟨⟨vs, ws, v, w, .inl h1, .inl h3, e1, e2⟩, ?_⟩
    rintro x H' ⟨A, x1, x2, ex, hA, eH, f1, f2⟩
    have g1 := f1 vs (.inl h1)
    have g2 := f2 ws (.inl h3)
    rw [e1] at g1
    rw [e2] at g2
    cases g1
    cases g2
    exact ⟨_, zipD_get (List.getElem?_eq_getElem i1) (List.getElem?_eq_getElem i2), yld_pair S r1 r2 hA ex eH⟩
  · rintro B A st σ H O ⟨⟨h1, h2⟩, ⟨h3, h4⟩, h5, h6⟩ S hA
    exact ⟨⟨rd_upd hA h1, nF_add hA h1 h2⟩, ⟨rd_upd hA h3, nF_add hA h3 h4⟩, shs_add hA h5, shs_add hA h6⟩
  · rintro B A zs H O ⟨⟨h1, h2⟩, ⟨h3, h4⟩, h5, h6⟩ hB hA
    exact ⟨⟨rd_set (fun z => h2 (.inl (z ▸ hB))) h1, h2⟩, ⟨rd_set (fun z => h4 (.inl (z ▸ hB))) h3, h4⟩, shs_set (.inl hB) hA h5, shs_set (.inl hB) hA h6⟩
theorem stabT {H H' : Hp} {O O' : Addr → Prop} {st : AS} {σ : L2.St} {a : Addr} {vs : List V} {pl : Bool} (S : SR G st σ H O) (sp : Stp pl G.hd O H O' H') (h : SqT G.K H a vs) : SqT G.K H' a vs := h.imp (fun q => (S.stp sp).1 a _ q fun xs e => nomatch e) id
theorem it_zipT {H : Hp} {O : Addr → Prop} {a b : Addr} {vs ws : List V} {xs ys : List D} (ha : SqT G.K H a vs) (hb : SqT G.K H b ws) (hx : Shs G.K H (G.F O) vs xs) (hy : Shs G.K H (G.F O) ws ys) : ItOk G false (ItzT G.K a b) (zipD xs ys) H O := by
  refine ⟨fun B H O => SqT G.K H a vs ∧ SqT G.K H b ws ∧ Shs G.K H ((G.at B).F O) vs xs ∧ Shs G.K H ((G.at B).F O) ws ys, ⟨ha, hb, hx, hy⟩, ?_, ?_, ?_, ?_⟩
  · rintro B st σ H O H' O' ⟨h1, h3, h5, h6⟩ S sp
    exact ⟨stabT (G := G.at B) S sp h1, stabT (G := G.at B) S sp h3, S.cars0 sp h5, S.cars0 sp h6⟩
  · rintro B i st σ H O ⟨h1, h3, h5, h6⟩ S
    refine ⟨fun hi => ?_, fun hi => ⟨vs, ws, h1, h3, by rw [zipD_len] at hi; rw [h5.length, h6.length]; omega⟩⟩
    obtain ⟨i1, i2⟩ := min_get hi
    obtain ⟨v, e1, r1⟩ := h5.get (List.getElem?_eq_getElem i1)
    obtain ⟨w, e2, r2⟩ := h6.get (List.getElem?_eq_getElem i2)
    refine ⟨⟨vs, ws, v, w, h1, h3, e1, e2⟩, ?_⟩
    rintro x H' ⟨A, x1, x2, ex, hA, eH, f1, f2⟩
    have g1 := f1 vs h1
    have g2 := f2 ws h3
    rw [e1] at g1
    rw [e2] at g2
    cases g1
    cases g2
    exact ⟨_, zipD_get (List.getElem?_eq_getElem i1) (List.getElem?_eq_getElem i2), yld_pair S r1 r2 hA ex eH⟩
  · rintro B A st σ H O ⟨h1, h3, h5, h6⟩ S hA
    exact ⟨sqt_upd hA h1, sqt_upd hA h3, shs_add hA h5, shs_add hA h6⟩
  · rintro B A zs H O ⟨h1, h3, h5, h6⟩ hB hA
    exact ⟨sqt_set hA h1, sqt_set hA h3, shs_set (.inl hB) hA h5, shs_set (.inl hB) hA h6⟩
theorem plain_back {pos : Pos} {es : List Expr} {env : Env} (h : es.all notStar = true) : (backTo pos (starEach es env)).any (·.1) = false := by
  induction es with
  | nil => rfl
  | cons e es ih =>
    rw [List.all_cons, Bool.and_eq_true] at h
    rw [star_of h.1]
    show (false || (backTo pos (starEach es env)).any (·.1)) = false
    rw [Bool.false_or]
    exact ih h.2
theorem i_zip {a b : Expr} {m n : ME} {p pos tpos : Pos} {elts : List Expr} {kk : Nat} (hK : X.K = G.K) (hg : Gl X "zip") (hm : X.mg "zip" = none) (ha : PE X a (T G .sh true m)) (hb : PE X b (T G .sh true n)) (hs : notStar a = true) (hs2 : notStar b = true) :
    PI X (.Tuple elts kk tpos) (.Call (.Name "zip" p) [a, b] [] pos) (TSrc G true false (sZip m n)) :=
  PI.weak (pi_zipA hg hm (pa_cons ha (pa_cons hb pa_nil (star_of hs2)) (star_of hs)) (star_of hs) (plain_back (by simp [hs2]))) fun σ H Z q => by
  obtain ⟨st, O, S, q⟩ := q
  refine ⟨st, O, S, R.all_mono (fun p q v H1 O1 s1 S1 r1 => ?_) (R.all_bind q)⟩
  refine ⟨p.2, O1, S1, R.all_mono (fun p2 q w H2 O2 s2 S2 r2 => ?_) (R.all_bind q)⟩
  have r1 := S1.car s2 r1
  rw [hK]
  cases e : p.1 with
  | lst xs =>
    rw [e] at q r1
    cases e2 : p2.1 with
    | lst ys =>
      rw [e2] at q r2
      rcases r1 with r1 | ⟨z, _⟩
      · rcases r2 with r2 | ⟨z, _⟩
        · cases r1 with
          | lst hr hf hs =>
            cases r2 with
            | lst hr2 hf2 hs2 => exact ⟨_, _, _, _, rfl, .inl ⟨.inl hr, .inl hr2, q _ H2 O2 (s1.trans s2 S2.hO) S2 (it_zip hr hf hr2 hf2 hs hs2)⟩⟩
        · cases z
      · cases z
    | _ => rw [e2] at q; exact q.elim
  | tup xs =>
    rw [e] at q r1
    cases e2 : p2.1 with
    | tup ys =>
      rw [e2] at q r2
      obtain ⟨c, vs, rfl, h1, h2⟩ := VR.tup (st := st) (σ := σ) (.inl r1)
      obtain ⟨d, ws, rfl, h3, h4⟩ := VR.tup (st := st) (σ := σ) (.inl r2)
      exact ⟨_, _, _, _, rfl, .inr ⟨h1, h3, q _ H2 O2 (s1.trans s2 S2.hO) S2 (it_zipT h1 h3 h2 h4)⟩⟩
    | _ => rw [e2] at q; exact q.elim
  | _ => rw [e] at q; exact q.elim
theorem i_pl {tg e : Expr} {m : MI} {pu : Bool} (h : PI X tg e (TSrc G pu false m)) : PI X tg e (TSrc G pu true m) := PI.weak h fun σ H Z q => by
  obtain ⟨st, O, S, q⟩ := q
  refine ⟨st, O, S, R.all_mono (fun p q J H1 O1 s1 S1 r1 => q J H1 O1 s1 S1 ?_) q⟩
  obtain ⟨W, w0, k, t⟩ := r1.ex
  exact ⟨W, w0, fun B st σ H O H' O' h S sp => k B st σ H O H' O' h S sp.weak, t⟩
end
/-! comprehensions -/
namespace R
variable {α β : Type}
def pall : R α → (α → Prop) → Prop
  | .ok a, p => p a
  | .dr n k, p => ∀ d, d < n → pall (k d) p
  | .bad, _ => True
theorem all_and {p q : α → Prop} : ∀ {x : R α}, x.all p → x.pall q → x.all fun a => p a ∧ q a
  | .ok _, h, g => ⟨h, g⟩
  | .dr _ _, h, g => fun d hd => all_and (h d hd) (g d hd)
  | .bad, h, _ => h
theorem pall_bind {p : β → Prop} {f : α → R β} : ∀ {x : R α}, (x.pall fun a => (f a).pall p) → (bind x f).pall p
  | .ok _, h => h
  | .dr _ _, h => fun d hd => pall_bind (h d hd)
  | .bad, h => h
theorem pall_mono {p q : α → Prop} (h : ∀ a, p a → q a) : ∀ {x : R α}, x.pall p → x.pall q
  | .ok _, g => h _ g
  | .dr _ _, g => fun d hd => pall_mono h (g d hd)
  | .bad, _ => trivial
end R
/-- the slots stay -/
def Fix {α : Type} (m : AS → R (α × AS)) : Prop := ∀ st, (m st).pall fun p => p.2 = st
/-- the items, one by one -/
def lcL (p : Pat) (c : MT) (e : ME) (st : AS) : List D → List D → R (List D)
  | [], acc => .ok acc
  | d :: r, acc => match asg p d st with
    | some st1 => (c st1).bind fun b => match b.1 with
      | true => (e st1).bind fun x => match isH x.1 || !(lenOk acc.length) with | true => .bad | false => lcL p c e st r (acc ++ [x.1])
      | false => lcL p c e st r acc
    | none => .bad
def mLc (s : MI) (p : Pat) (c : MT) (e : ME) (own : List Nat) : ME := fun st => (s st).bind fun x => (lcL p c e (wipeA x.2 own) x.1 []).bind fun l => .ok (.lst l, x.2)
def tYesM : MT := fun st => .ok (true, st)
theorem wipe_get {σ : L2.St} {j : Nat} : ∀ {vs : List Nat}, (L2.wipe σ vs)[j]? = if j ∈ vs ∧ j < σ.length then some none else σ[j]?
  | [] => by simp [L2.wipe]
  | v :: vs => by
    unfold L2.wipe
    by_cases e : v = j
    · subst e
      by_cases hl : v < σ.length
      · rw [List.getElem?_set_self (by rw [L2.wipe_length]; exact hl), if_pos ⟨by simp, hl⟩]
      · rw [List.getElem?_eq_none (by rw [List.length_set, L2.wipe_length]; omega), if_neg (by intro z; exact hl z.2), List.getElem?_eq_none (by omega)]
    · rw [List.getElem?_set_ne e, wipe_get]
      by_cases h : j ∈ vs ∧ j < σ.length
      · rw [if_pos h, if_pos ⟨by simp [h.1], h.2⟩]
      · rw [if_neg h, if_neg (by rintro ⟨z, hl⟩; rcases List.mem_cons.mp z with z | z; exact e z.symm; exact h ⟨z, hl⟩)]
theorem wipe_same {σ σ' : L2.St} {vs : List Nat} (h : Same2 σ σ' vs) : L2.wipe σ' vs = L2.wipe σ vs := by
  refine List.ext_getElem? fun j => ?_
  rw [wipe_get, wipe_get, h.len]
  by_cases hj : j ∈ vs
  · by_cases hl : j < σ.length
    · rw [if_pos ⟨hj, hl⟩, if_pos ⟨hj, hl⟩]
    · rw [if_neg (by intro z; exact hl z.2), if_neg (by intro z; exact hl z.2), List.getElem?_eq_none (by rw [h.len]; omega), List.getElem?_eq_none (by omega)]
  · rw [if_neg (by intro z; exact hj z.1), if_neg (by intro z; exact hj z.1), h.out j hj]
theorem wipe_wipe {σ : L2.St} {vs : List Nat} : L2.wipe (L2.wipe σ vs) vs = L2.wipe σ vs := wipe_same ⟨L2.wipe_length σ vs, fun j hj => by rw [wipe_get, if_neg (fun z => hj z.1)]⟩
section
variable {X : Cx} {G : Cn}
/-- no condition, one condition -/
theorem pts_y {X : Cx} {G : Cn} : PTs X [] (TB G true tYesM) := ⟨fun pins s σ H Q I q => by
  obtain ⟨st, O, S, q⟩ := q
  exact pts_nil.run pins s σ H Q I (q H O Stp.refl S)⟩
/-! the list that grows stands under the base while it grows -/
theorem SR.sub {B B' : Addr → Prop} {st : AS} {σ : L2.St} {H : Hp} {O : Addr → Prop} (S : SR (G.at B') st σ H O) (h : ∀ a, B a → B' a) (hb : ∀ a, G.hd = some a → B a ∧ B G.hc) : SR (G.at B) st σ H O where
  len := S.len
  val := fun i d e => by
    obtain ⟨v, e1, q⟩ := S.val i d e
    refine ⟨v, e1, ?_⟩
    have mn : ∀ a, (G.at B).F O a → (G.at B').F O a := fun a z => z.imp (h a) id
    cases hk : G.kd i with
    | true =>
      rw [hk] at q
      obtain ⟨a, rfl, ho, ds, vs, e2, e3, e4⟩ := q
      exact ⟨a, rfl, ho, ds, vs, e2, e3, e4.mono mn⟩
    | false =>
      rw [hk] at q
      exact ShR.mono mn q
  ap := S.ap
  tr := fun a z => S.tr a (z.imp (h a) id)
  bo := fun a z => S.bo a (h a z)
  hn := fun a e => by
    obtain ⟨q1, q2⟩ := S.hn a e
    exact ⟨⟨(hb a e).1, (hb a e).2, q1.2.2⟩, q2⟩
theorem SR.addB {B : Addr → Prop} {st : AS} {σ : L2.St} {H : Hp} {O : Addr → Prop} {A : Addr} (S : SR (G.at B) st σ H O) (hA : H A = none) : SR (G.at fun b => B b ∨ b = A) st σ (upd H A (.lst [])) O where
  len := S.len
  val := fun i d e => by
    obtain ⟨v, e1, q⟩ := S.val i d e
    refine ⟨v, e1, ?_⟩
    cases hk : G.kd i with
    | true =>
      rw [hk] at q
      obtain ⟨a, rfl, ho, ds, vs, e2, e3, e4⟩ := q
      exact ⟨a, rfl, ho, ds, vs, e2, upd_keep hA _ _ e3, shs_add hA e4⟩
    | false =>
      rw [hk] at q
      rcases q with q | q
      · have := shs_add (o := .lst []) (B := B) (O := O) hA (.cons q .nil)
        cases this
        exact .inl (by assumption)
      · exact .inr q
  ap := S.ap
  tr := fun a z => by
    by_cases e : a = A
    · subst e; exact ⟨[], upd_same⟩
    · obtain ⟨xs, q⟩ := S.tr a (by
        rcases z with (z | z) | z
        · exact .inl z
        · exact absurd z e
        · exact .inr z)
      exact ⟨xs, by rw [upd_ne e]; exact q⟩
  bo := fun a z y => by
    rcases z with z | z
    · exact S.bo a z y
    · obtain ⟨xs, q⟩ := S.tr a (.inr y)
      rw [z, hA] at q
      cases q
  hn := fun a e => by
    obtain ⟨q1, q2⟩ := (HandI.keep S.hn (upd_keep (o := .lst []) hA)) a e
    exact ⟨⟨.inl q1.1, .inl q1.2.1, q1.2.2⟩, q2⟩
theorem SR.setB {B : Addr → Prop} {st : AS} {σ : L2.St} {H : Hp} {O : Addr → Prop} {A : Addr} {ys : List V} (S : SR (G.at B) st σ H O) (hB : B A) (hA : ∃ xs, H A = some (.lst xs)) (hh : ∀ a, G.hd = some a → a ≠ A ∧ G.hc ≠ A) : SR (G.at B) st σ (upd H A (.lst ys)) O where
  len := S.len
  val := fun i d e => by
    obtain ⟨v, e1, q⟩ := S.val i d e
    refine ⟨v, e1, ?_⟩
    cases hk : G.kd i with
    | true =>
      rw [hk] at q
      obtain ⟨a, rfl, ho, ds, vs, e2, e3, e4⟩ := q
      exact ⟨a, rfl, ho, ds, vs, e2, by rw [upd_ne (fun (z : a = A) => S.bo A hB (z ▸ ho))]; exact e3, shs_set (.inl hB) hA e4⟩
    | false =>
      rw [hk] at q
      exact q.imp (sh_set (.inl hB) hA) id
  ap := S.ap
  tr := fun a z => by
    by_cases e : a = A
    · subst e; exact ⟨ys, upd_same⟩
    · obtain ⟨xs, q⟩ := S.tr a z
      exact ⟨xs, by rw [upd_ne e]; exact q⟩
  bo := S.bo
  hn := fun a e => by
    obtain ⟨q1, i, l, m, n, cs, q2, q3, q4⟩ := S.hn a e
    exact ⟨q1, i, l, m, n, cs, by rw [upd_ne (hh a e).1]; exact q2, by rw [upd_ne (hh a e).2]; exact q3, q4⟩
/-- what a pure step gave of some slots, told of all -/
theorem SR.mix {st st' : AS} {σ σ' : L2.St} {H H' : Hp} {O O' : Addr → Prop} (S : SR G st σ H O) (S' : SR G st' σ' H' O') (sp : Stp true G.hd O H O' H') (hM : ∀ i d, G.kd i = true → st[i]? = some (some d) → st'[i]? = some (some d) ∧ σ'[i]? = σ[i]?) : SR G st σ H' O' where
  len := S.len
  val := fun i d e => by
    cases hk : G.kd i with
    | true =>
      obtain ⟨h1, h2⟩ := hM i d hk e
      obtain ⟨v, e1, q⟩ := S'.val i d h1
      rw [hk] at q
      exact ⟨v, by rw [← h2]; exact e1, q⟩
    | false =>
      obtain ⟨v, e1, q⟩ := S.val i d e
      rw [hk] at q
      exact ⟨v, e1, S.car sp q⟩
  ap := S.ap
  tr := S'.tr
  bo := S'.bo
  hn := S'.hn
theorem asg_out : ∀ {p : Pat} {d : D} {st st' : AS} {i : Nat}, asg p d st = some st' → i ∉ pslots p → st'[i]? = st[i]?
  | .nm j, d, st, st', i, e, h => by
    cases e
    exact List.getElem?_set_ne (fun z => h (by simp [pslots, z]))
  | .tp p, d, st, st', i, e, h => by
    cases d with
    | tup ds => exact asg_out (p := p) (d := .lst ds) e h
    | lst ds => exact asg_out (p := p) (d := .lst ds) e h
    | _ => cases e
  | .nil, d, st, st', i, e, h => by
    cases d with
    | lst ds => cases ds with | nil => cases e; rfl | cons _ _ => cases e
    | _ => cases e
  | .cons p q, d, st, st', i, e, h => by
    cases d with
    | lst ds =>
      cases ds with
      | nil => cases e
      | cons x xs =>
        have e : (match asg p x st with | some st' => asg q (.lst xs) st' | none => none) = some st' := e
        cases e2 : asg p x st with
        | none => rw [e2] at e; cases e
        | some st1 =>
          rw [e2] at e
          rw [asg_out e (fun z => h (by simp [pslots, z])), asg_out e2 (fun z => h (by simp [pslots, z]))]
    | _ => cases e
theorem wipeA_get {st : AS} {j : Nat} : ∀ {vs : List Nat}, j ∉ vs → (wipeA st vs)[j]? = st[j]?
  | [], _ => rfl
  | v :: vs, h => by
    unfold wipeA
    rw [List.getElem?_set_ne (fun z => h (by simp [z])), wipeA_get (fun z => h (by simp [z]))]
/-- the grown list goes from the base to what is owned -/
theorem SR.unB {B : Addr → Prop} {st : AS} {σ : L2.St} {H : Hp} {O : Addr → Prop} {A : Addr} (S : SR (G.at fun b => B b ∨ b = A) st σ H O) (hBA : ¬ B A) (hb : ∀ a, G.hd = some a → B a ∧ B G.hc) : SR (G.at B) st σ H (fun b => O b ∨ b = A) where
  len := S.len
  val := fun i d e => by
    obtain ⟨v, e1, q⟩ := S.val i d e
    refine ⟨v, e1, ?_⟩
    have mn : ∀ a, (G.at B).F (fun b => O b ∨ b = A) a → (G.at fun b => B b ∨ b = A).F O a := fun a z => by
      rcases z with z | z | z
      · exact .inl (.inl z)
      · exact .inr z
      · exact .inl (.inr z)
    cases hk : G.kd i with
    | true =>
      rw [hk] at q
      obtain ⟨a, rfl, ho, ds, vs, e2, e3, e4⟩ := q
      exact ⟨a, rfl, .inl ho, ds, vs, e2, e3, e4.mono mn⟩
    | false =>
      rw [hk] at q
      exact ShR.mono mn q
  ap := S.ap
  tr := fun a z => by
    rcases z with z | z | z
    · exact S.tr a (.inl (.inl z))
    · exact S.tr a (.inr z)
    · exact S.tr a (.inl (.inr z))
  bo := fun a z y => by
    rcases y with y | y
    · exact S.bo a (.inl z) y
    · exact hBA (y ▸ z)
  hn := fun a e => by
    obtain ⟨q1, q2⟩ := S.hn a e
    exact ⟨⟨(hb a e).1, (hb a e).2, q1.2.2⟩, q2⟩
theorem w_lc {s : MI} {p : Pat} {c : MT} {e : ME} {own : List Nat} {B : Addr → Prop} {tc : TT} {te : TE} {tg : TG} (hc : Fix c) (he : Fix e) (hp : ∀ j ∈ pslots p, j ∈ own) (ho : ∀ j ∈ own, G.kd j = false)
    (wc : ∀ B σ H Q, TB (G.at B) true c σ H Q → tc σ H Q) (we : ∀ B σ H Q, T (G.at B) .sh true e σ H Q → te σ H Q) (wg : ∀ B v σ H Q, TPat (G.at B) p v σ H Q → tg v σ H Q) (σ : L2.St) (H : Hp) (Q : VK) (q : T (G.at B) .ow true (mLc s p c e own) σ H Q) :
    tLc (TSrc (G.at B) true true s) tg tc te own σ H Q := by
  obtain ⟨st, O, S, q⟩ := q
  refine ⟨st, O, S, R.all_mono (fun x q J H1 O1 s1 S1 it => ?_) (R.all_bind q)⟩
  obtain ⟨W, w0, wk, wt, wa, wu⟩ := it.ex
  intro A hA
  have hBA : ¬ B A := fun z => by
    obtain ⟨xs, e⟩ := S1.tr A (.inl z)
    rw [hA] at e
    cases e
  have hhd : ∀ a, G.hd = some a → a ≠ A ∧ G.hc ≠ A := fun a ea => by
    obtain ⟨_, i, l, m, n, cs, e1, e2, _⟩ := S1.hn a ea
    exact ⟨ne_of_none e1 hA, ne_of_none e2 hA⟩
  have hBh : ∀ a, G.hd = some a → B a ∧ B G.hc := fun a ea => ⟨(S1.hn a ea).1.1, (S1.hn a ea).1.2.1⟩
  -- the turn's word, over the heap and what is still to come
  let P : Nat → Hp → Prop := fun i H2 => i ≤ x.1.length ∧ ∃ O2 vs acc, (∀ a o, H1 a = some o → G.hd ≠ some a → H2 a = some o) ∧ (∀ a, O2 a → O1 a ∨ H1 a = none) ∧ W (fun b => B b ∨ b = A) H2 O2 ∧ SR (G.at fun b => B b ∨ b = A) x.2 σ H2 O2 ∧ H2 A = some (.lst vs) ∧
    Shs G.K H2 ((G.at fun b => B b ∨ b = A).F O2) vs acc ∧ ((lcL p c e (wipeA x.2 own) (x.1.drop i) acc).bind fun l => R.ok (D.lst l, x.2)).all fun p => ∀ v H' O', Stp true G.hd O H O' H' → SR (G.at B) p.2 σ H' O' → VR (G.at B) .ow p.2 σ H' O' v p.1 → Q v H'
  refine ⟨fun i m H2 => m = x.1.length - i ∧ P i H2, ⟨x.1.length, by simp, Nat.zero_le _, O1, [], [], fun a o e _ => upd_keep hA a o e, fun a z => .inl z, wa _ _ _ _ _ _ w0 S1 hA, S1.addB hA, upd_same, .nil, by simpa using q⟩, ?_⟩
  rintro i m H2 ⟨rfl, hi, O2, vs, acc, k2, n2, w2, S2, hA2, ac2, q2⟩
  obtain ⟨goes, stops⟩ := wt _ i _ _ _ _ w2 S2
  by_cases hlt : i < x.1.length
  · obtain ⟨go, yl⟩ := goes hlt
    refine .inr ⟨go, P (i + 1), fun H3 h3 => ⟨x.1.length - (i + 1), by omega, rfl, h3⟩, fun v H3 hy => ?_⟩
    obtain ⟨d, ed, s3, S3, r3⟩ := yl v H3 hy
    have hd : x.1.drop i = d :: x.1.drop (i + 1) := by
      obtain ⟨h1, h2⟩ := List.getElem?_eq_some_iff.mp ed
      rw [List.drop_eq_getElem_cons h1, h2]
    rw [hd] at q2
    unfold lcL at q2
    have w3 := wk _ _ _ _ _ _ _ w2 S2 s3
    have SW : SR (G.at fun b => B b ∨ b = A) (wipeA x.2 own) (L2.wipe σ own) H3 O2 := S3.wipe own
    have ac3 := S2.cars0 s3 ac2
    have hA3 : H3 A = some (.lst vs) := s3.pr A _ hA2 (.inl rfl) fun z => (hhd A z).1 rfl
    have k3 : ∀ a o, H1 a = some o → G.hd ≠ some a → H3 a = some o := fun a o e n => s3.pr a o (k2 a o e n) (.inl rfl) n
    cases ea : asg p d (wipeA x.2 own) with
    | none => rw [ea] at q2; exact q2.elim
    | some st1 =>
      rw [ea] at q2
      refine wg (fun b => B b ∨ b = A) _ _ _ _ ⟨_, O2, d, st1, SW, r3, ea, fun σ2 Sσ m2 => ⟨by rw [wipe_same (m2.mono hp), wipe_wipe], wc (fun b => B b ∨ b = A) _ _ _ ⟨st1, O2, Sσ, ?_⟩⟩⟩
      have hM : ∀ (i : Nat) (d : D), G.kd i = true → x.2[i]? = some (some d) → st1[i]? = some (some d) ∧ σ2[i]? = σ[i]? := fun j d' hk e1 => by
        have n1 : j ∉ own := fun z => by rw [ho j z] at hk; cases hk
        have n2 : j ∉ pslots p := fun z => n1 (hp j z)
        exact ⟨by rw [asg_out ea n2, wipeA_get n1]; exact e1, by rw [m2.out j n2, wipe_get, if_neg (fun z => n1 z.1)]⟩
      have gone : ∀ {B' : Addr → Prop} {st' : AS} {σ' : L2.St} {O' : Addr → Prop} {H' : Hp} (a : Addr), SR (G.at B') st' σ' H' O' → (∀ a o, H1 a = some o → G.hd ≠ some a → H' a = some o) → H' a = none → H1 a = none := fun a S' k z => by
        cases y : H1 a with
        | none => rfl
        | some o =>
          by_cases ez : G.hd = some a
          · obtain ⟨_, i, l, m, n, cs, e1, _⟩ := S'.hn a ez
            rw [z] at e1; cases e1
          · rw [k a o y ez] at z; cases z
      have q2 := R.all_and (R.all_bind (R.all_bind q2)) (hc st1)
      refine R.all_mono (fun b ⟨q3, eb⟩ H4 O4 s4 S4 => ?_) q2
      obtain ⟨b1, b2⟩ := b
      have eb : b2 = st1 := eb
      subst eb
      have w4 := wk _ _ _ _ _ _ _ w3 Sσ s4
      have S4' := SR.mix S3 S4 s4 hM
      have ac4 := S3.cars0 s4 ac3
      have hA4 : H4 A = some (.lst vs) := s4.pr A _ hA3 (.inl rfl) fun z => (hhd A z).1 rfl
      have k4 : ∀ a o, H1 a = some o → G.hd ≠ some a → H4 a = some o := fun a o e n => s4.pr a o (k3 a o e n) (.inl rfl) n
      have n4 : ∀ a, O4 a → O1 a ∨ H1 a = none := fun a z => (s4.nw a z).elim (n2 a) fun z => .inr (gone a S3 k3 z)
      cases b1 with
      | false => exact iteF ⟨hlt, O4, vs, acc, k4, n4, w4, S4', hA4, ac4, R.bind_all q3⟩
      | true =>
        refine iteT (we (fun b => B b ∨ b = A) _ _ _ ⟨_, O4, S4, R.all_mono (fun y ⟨q4, ey⟩ u H5 O5 s5 S5 r5 => ?_) (R.all_and (R.all_bind q3) (he _))⟩)
        obtain ⟨y1, y2⟩ := y
        have ey : y2 = b2 := ey
        subst ey
        have w5 := wk _ _ _ _ _ _ _ w4 S4 s5
        have S5' := SR.mix S4' S5 s5 hM
        have ac5 := S4'.cars0 s5 ac4
        have hA5 : H5 A = some (.lst vs) := s5.pr A _ hA4 (.inl rfl) fun z => (hhd A z).1 rfl
        have k5 : ∀ a o, H1 a = some o → G.hd ≠ some a → H5 a = some o := fun a o e n => s5.pr a o (k4 a o e n) (.inl rfl) n
        have n5 : ∀ a, O5 a → O1 a ∨ H1 a = none := fun a z => (s5.nw a z).elim (n4 a) fun z => .inr (gone a S4' k4 z)
        cases f : (isH y1 || !(lenOk acc.length)) with
        | true =>
          simp only [f] at q4
          exact q4.elim
        | false =>
          simp only [f] at q4
          rw [Bool.or_eq_false_iff] at f
          have r5 : Sh G.K H5 ((G.at fun b => B b ∨ b = A).F O5) u y1 := by
            rcases r5 with r5 | ⟨z, _⟩
            · exact r5
            · have f1 := f.1
              have z : y1 = .hnd := z
              rw [z] at f1
              cases f1
          refine ⟨vs, hA5, ?_, hlt, O5, vs ++ [u], acc ++ [y1], fun a o e n => ?_, n5, wu _ A _ H5 O5 w5 (.inr rfl) ⟨_, hA5⟩, SR.setB S5' (.inr rfl) ⟨_, hA5⟩ hhd, upd_same, shs_set (.inl (.inr rfl)) ⟨_, hA5⟩ (ac5.append (.cons r5 .nil)), R.bind_all q4⟩
          · rw [ac5.length]
            exact lenOk_le (by simpa using f.2)
          · rw [upd_ne (ne_of_none e hA)]
            exact k5 a o e n
  · have e : x.1.drop i = [] := List.drop_eq_nil_iff.mpr (by omega)
    rw [e] at q2
    have gone : ∀ a, H1 a = none → O a ∨ H a = none := fun a z => by
      cases y : H a with
      | none => exact .inr rfl
      | some o =>
        by_cases ez : G.hd = some a
        · obtain ⟨_, i, l, m, n, cs, e1, _⟩ := S1.hn a ez
          rw [z] at e1; cases e1
        · rw [s1.pr a o y (.inl rfl) ez] at z; cases z
    refine .inl ⟨stops (by omega), q2 _ H2 (fun b => O2 b ∨ b = A) ⟨fun a o e _ n => k2 a o (s1.pr a o e (.inl rfl) n) n, fun a z => ?_⟩ (S2.unB hBA hBh) ⟨A, rfl, ⟨.inr rfl, acc, vs, rfl, hA2, ac2.mono fun a z => ?_⟩, fun j d' hk e1 e2 => ?_⟩⟩
    · rcases z with z | z
      · exact (n2 a z).elim (fun y => s1.nw a y) (gone a)
      · exact gone a (z ▸ hA)
    · rcases z with z | z | z
      · exact .inl (.inl z)
      · exact .inr z
      · exact .inl (.inr z)
    · obtain ⟨v, e3, q⟩ := S2.val j d' e1
      rw [show (G.at fun b => B b ∨ b = A).kd j = true from hk] at q
      obtain ⟨a, rfl, ho, _⟩ := q
      rw [e2] at e3
      cases e3
      exact S2.bo A (.inr rfl) ho
end
end EV
/-! calls and statements -/
namespace EV
open PySem PySem.Spec PyProof.Rows L2 RZ
/-! calls of defs -/
def RetR (K : PySem.W.Frag) (hd : Option Addr) (B : Addr → Prop) (H H' : Hp) (ro : Bool) (v : V) (r : D) : Prop := match ro with
  | false => ShR K hd H' B v r
  | true => ∃ a, v = .ref a ∧ H a = none ∧ ∃ ds vs, r = .lst ds ∧ H' a = some (.lst vs) ∧ Shs K H' (fun b => B b ∨ b = a) vs ds
def SpE (K : PySem.W.Frag) (n : Nat) (ro : Bool) (φ : List D → R D) : Sp := fun vs H Q _ => vs.length = n ∧ ∃ hd hc B ds, (∀ a, B a → ∃ xs, H a = some (.lst xs)) ∧ HandI hd hc B H ∧ ShRs K hd H B vs ds ∧ (φ ds).all fun r => ∀ v H',
  (∀ a o, H a = some o → hd ≠ some a → H' a = some o) → HandI hd hc B H' → RetR K hd B H H' ro v r → Q v H'
def mCall (φ : List D → R D) (l : ML) : ME := fun st => (l st).bind fun p => (φ p.1).bind fun r => .ok (r, p.2)
def kOf (ro : Bool) : Kd := match ro with | true => .ow | false => .sh
section
variable {X : Cx} {G : Cn} {pu : Bool}
theorem HandI.up {hd : Option Addr} {hc : Addr} {B B' : Addr → Prop} {H : Hp} (h : HandI hd hc B H) (hb : ∀ a, B a → B' a) : HandI hd hc B' H := fun a e => by
  obtain ⟨q1, q2⟩ := h a e
  exact ⟨⟨hb a q1.1, hb hc q1.2.1, q1.2.2⟩, q2⟩
theorem HandI.dn {hd : Option Addr} {hc : Addr} {B B' : Addr → Prop} {H H' : Hp} (h : HandI hd hc B' H') (h0 : HandI hd hc B H) : HandI hd hc B H' := fun a e => ⟨(h0 a e).1, (h a e).2⟩
theorem w_call {n : Nat} {ro : Bool} {φ : List D → R D} {l : ML} (σ : L2.St) (H : Hp) (Q : VK) (hn : ∀ st, (l st).pall fun p => p.1.length = n) (q : T G (kOf ro) pu (mCall φ l) σ H Q) : tCall (SpE G.K n ro φ) [] E0 (TL G pu l) σ H Q := by
  obtain ⟨st, O, S, q⟩ := q
  refine ⟨st, O, S, R.all_mono (fun p ⟨q, len⟩ vs H1 O1 s1 S1 r1 => ?_) (R.all_and (R.all_bind q) (hn st))⟩
  show SpE G.K n ro φ (vs ++ []) H1 Q E0
  rw [List.append_nil]
  refine ⟨by rw [r1.length, len], G.hd, G.hc, G.F O1, p.1, S1.tr, S1.hn.up fun a z => .inl z, r1, R.all_mono (fun r q v H2 kp hI rr => ?_) (R.all_bind q)⟩
  have sp0 : Stp true G.hd O1 H1 O1 H2 := ⟨fun a o e _ n => kp a o e n, fun a z => .inl z⟩
  have tr0 : ∀ a, O1 a → ∃ xs, H2 a = some (.lst xs) := fun a z => by
    obtain ⟨xs, e⟩ := S1.tr a (.inr z)
    exact ⟨xs, kp a _ e fun y => S1.hO a y z⟩
  cases ro with
  | false =>
    have S2 : SR G p.2 σ H2 O1 := S1.goes sp0 tr0 S1.bo (fun _ z => z) (hI.dn S1.hn)
    refine q v H2 O1 ?_ S2 rr
    cases pu with
    | true => exact s1.trans sp0 S2.hO
    | false => exact s1.trans sp0.weak S2.hO
  | true =>
    obtain ⟨a, rfl, ha, ds, ws, rfl, e2, e3⟩ := rr
    have sp1 : Stp true G.hd O1 H1 (fun b => O1 b ∨ b = a) H2 := ⟨fun a o e _ n => kp a o e n, fun b z => z.imp id fun (e : b = a) => by rw [e]; exact ha⟩
    have bo : ∀ b, G.B b → ¬ (O1 b ∨ b = a) := fun b hb z => z.elim (S1.bo b hb) fun e => by
      obtain ⟨xs, y⟩ := S1.tr b (.inl hb)
      rw [e, ha] at y
      cases y
    have S2 : SR G p.2 σ H2 (fun b => O1 b ∨ b = a) := S1.goes sp1 (fun b z => z.elim (tr0 b) fun (e : b = a) => ⟨ws, by rw [e]; exact e2⟩) bo (fun _ z => .inl z) (hI.dn S1.hn)
    refine q _ H2 (fun b => O1 b ∨ b = a) ?_ S2 ⟨a, rfl, ⟨.inr rfl, ds, ws, rfl, e2, e3.mono fun b z => ?_⟩, S1.fresh ha⟩
    · cases pu with
      | true => exact s1.trans sp1 S2.hO
      | false => exact s1.trans sp1.weak S2.hO
    · rcases z with z | z | z
      · exact .inl (.inl z)
      · exact .inl (.inr z)
      · exact .inr z
end
/-! statements -/
inductive Fl where
  | nx (st : AS) | rt (d : D) | bk (st : AS) | ct (st : AS)
abbrev MS := AS → R Fl
def FlP (G : Cn) (ro : Bool) (O : Addr → Prop) (H : Hp) (Dn : Ends) : Fl → Prop
  | .nx st' => ∀ σ' H' O', Stp false G.hd O H O' H' → SR G st' σ' H' O' → Dn.nx σ' H'
  | .bk st' => ∀ σ' H' O', Stp false G.hd O H O' H' → SR G st' σ' H' O' → Dn.bk σ' H'
  | .ct st' => ∀ σ' H' O', Stp false G.hd O H O' H' → SR G st' σ' H' O' → Dn.ct σ' H'
  | .rt d => ∀ v H' O' st' σ', Stp false G.hd O H O' H' → SR G st' σ' H' O' → VR G (kOf ro) st' σ' H' O' v d → Dn.rt v H'
def TSm (G : Cn) (ro : Bool) (m : MS) : L2.TS := fun Dn σ H => ∃ st O, SR G st σ H O ∧ (m st).all (FlP G ro O H Dn)
/-- the wishes behind a step -/
theorem FlP.after {G : Cn} {ro : Bool} {O O1 : Addr → Prop} {H H1 : Hp} {Dn : Ends} {f : Fl} {st1 : AS} {σ1 : L2.St} (h : FlP G ro O H Dn f) (s : Stp false G.hd O H O1 H1) (S1 : SR G st1 σ1 H1 O1) : FlP G ro O1 H1 Dn f := by
  cases f with
  | nx st' => exact fun σ' H' O' sp S => h σ' H' O' (s.trans sp S.hO) S
  | bk st' => exact fun σ' H' O' sp S => h σ' H' O' (s.trans sp S.hO) S
  | ct st' => exact fun σ' H' O' sp S => h σ' H' O' (s.trans sp S.hO) S
  | rt d => exact fun v H' O' st' σ' sp S r => h v H' O' st' σ' (s.trans sp S.hO) S r
def sSkip : MS := fun st => .ok (.nx st)
def sSq (a b : MS) : MS := fun st => (a st).bind fun f => match f with | .nx st' => b st' | f => .ok f
def sBrk : MS := fun st => .ok (.bk st)
def sCnt : MS := fun st => .ok (.ct st)
def sRet (m : ME) : MS := fun st => (m st).bind fun p => .ok (.rt p.1)
def sIfS (t : MT) (a b : MS) : MS := fun st => (t st).bind fun p => match p.1 with | true => a p.2 | false => b p.2
def sAs (p : Pat) (m : ME) : MS := fun st => (m st).bind fun x => match asg p x.1 x.2 with | some st' => .ok (.nx st') | none => .bad
def sAo (i : Nat) (m : ME) : MS := fun st => (m st).bind fun x => .ok (.nx (x.2.set i (some x.1)))
def sNev : MS := fun _ => .bad
section
variable {X : Cx} {G : Cn} {ro : Bool} {pu : Bool}
theorem s_nil : PSs X [] (TSm G ro sSkip) := PSs.weak pss_nil fun Dn σ H q => by
  obtain ⟨st, O, S, q⟩ := q
  exact q σ H O Stp.refl S
theorem s_pass {pos : Pos} : PS X (.Pass pos) (TSm G ro sSkip) := PS.weak ps_pass fun Dn σ H q => by
  obtain ⟨st, O, S, q⟩ := q
  exact q σ H O Stp.refl S
theorem w_sq {a b : MS} (Dn : Ends) (σ : L2.St) (H : Hp) (q : TSm G ro (sSq a b) Dn σ H) : tSeq (TSm G ro a) (TSm G ro b) Dn σ H := by
  obtain ⟨st, O, S, q⟩ := q
  refine ⟨st, O, S, R.all_mono (fun f q => ?_) (R.all_bind q)⟩
  cases f with
  | nx st' => exact fun σ' H' O' sp S' => ⟨st', O', S', R.all_mono (fun f q => q.after sp S') q⟩
  | bk st' => exact q
  | ct st' => exact q
  | rt d => exact q
theorem s_cons {s : Stmt} {r : List Stmt} {a b : MS} (h : PS X s (TSm G ro a)) (h2 : PSs X r (TSm G ro b)) : PSs X (s :: r) (TSm G ro (sSq a b)) := PSs.weak (pss_cons h h2) w_sq
theorem s_brk {pos : Pos} : PS X (.Break pos) (TSm G ro sBrk) := PS.weak ps_break fun Dn σ H q => by
  obtain ⟨st, O, S, q⟩ := q
  exact q σ H O Stp.refl S
theorem s_cnt {pos : Pos} : PS X (.Continue pos) (TSm G ro sCnt) := PS.weak ps_continue fun Dn σ H q => by
  obtain ⟨st, O, S, q⟩ := q
  exact q σ H O Stp.refl S
theorem s_ret {e : Expr} {m : ME} {pos : Pos} (h : PE X e (T G (kOf ro) pu m)) : PS X (.Return (some e) pos) (TSm G ro (sRet m)) := PS.weak (ps_ret h) fun Dn σ H q => by
  obtain ⟨st, O, S, q⟩ := q
  refine ⟨st, O, S, R.all_mono (fun p q v H1 O1 s1 S1 r1 => ?_) (R.all_bind q)⟩
  exact q v H1 O1 p.2 σ s1.weak S1 r1
theorem s_retN {pos : Pos} : PS X (.Return none pos) (TSm G false (sRet (mK .non))) := PS.weak ps_retN fun Dn σ H q => by
  obtain ⟨st, O, S, q⟩ := q
  exact q .non H O st σ Stp.refl S (.inl .non)
theorem s_if {c : Expr} {a b : List Stmt} {t : MT} {x y : MS} {pos : Pos} (hc : PT X c (TB G true t)) (ha : PSs X a (TSm G ro x)) (hb : PSs X b (TSm G ro y)) : PS X (.If c a b pos) (TSm G ro (sIfS t x y)) := PS.weak (ps_if hc ha hb) fun Dn σ H q => by
  obtain ⟨st, O, S, q⟩ := q
  refine ⟨st, O, S, R.all_mono (fun p q H1 O1 s1 S1 => ?_) (R.all_bind q)⟩
  cases e : p.1 with
  | true =>
    rw [e] at q
    exact iteT ⟨p.2, O1, S1, R.all_mono (fun f q => q.after s1.weak S1) q⟩
  | false =>
    rw [e] at q
    exact iteF ⟨p.2, O1, S1, R.all_mono (fun f q => q.after s1.weak S1) q⟩
theorem w_as {p : Pat} {m : ME} (Dn : Ends) (σ : L2.St) (H : Hp) (q : TSm G ro (sAs p m) Dn σ H) : tAsg (T G .sh pu m) (TPat G p) Dn σ H := by
  obtain ⟨st, O, S, q⟩ := q
  refine ⟨st, O, S, R.all_mono (fun x q v H1 O1 s1 S1 r1 => ?_) (R.all_bind q)⟩
  cases e : asg p x.1 x.2 with
  | none => rw [e] at q; exact q.elim
  | some st' =>
    rw [e] at q
    exact ⟨x.2, O1, x.1, st', S1, r1, e, fun σ' S' _ => q σ' H1 O1 s1.weak S'⟩
theorem w_ao {i : Nat} {m : ME} (hk : G.kd i = true) (Dn : Ends) (σ : L2.St) (H : Hp) (q : TSm G ro (sAo i m) Dn σ H) : tAsg (T G .ow pu m) (gName i) Dn σ H := by
  obtain ⟨st, O, S, q⟩ := q
  refine ⟨st, O, S, R.all_mono (fun x q v H1 O1 s1 S1 r1 => ?_) (R.all_bind q)⟩
  obtain ⟨a, rfl, ow, fr⟩ := r1
  exact q _ H1 O1 s1.weak (S1.putO hk ow fun j d' _ hj e => fr j d' hj e)
/-! loops -/
def forL (p : Pat) (b : MS) : List D → AS → R Fl
  | [], st => .ok (.nx st)
  | d :: r, st => match asg p d st with
    | some st1 => (b st1).bind fun f => match f with
      | .nx st2 => forL p b r st2
      | .ct st2 => forL p b r st2
      | .bk st2 => .ok (.nx st2)
      | .rt d => .ok (.rt d)
    | none => .bad
def sFor (s : MI) (p : Pat) (b : MS) : MS := fun st => (s st).bind fun x => forL p b x.1 x.2
theorem w_for {s : MI} {p : Pat} {b : MS} (Dn : Ends) (σ : L2.St) (H : Hp) (q : TSm G ro (sFor s p b) Dn σ H) : tFor (TSrc G pu false s) (TPat G p) (TSm G ro b) Dn σ H := by
  obtain ⟨st, O, S, q⟩ := q
  refine ⟨st, O, S, R.all_mono (fun x q J H1 O1 s1 S1 it => ?_) (R.all_bind q)⟩
  obtain ⟨W, w0, wk, wt, _⟩ := it.ex
  let P : Nat → L2.St → Hp → Prop := fun i σ2 H2 => i ≤ x.1.length ∧ ∃ st2 O2, Stp false G.hd O H O2 H2 ∧ W G.B H2 O2 ∧ SR G st2 σ2 H2 O2 ∧ (forL p b (x.1.drop i) st2).all (FlP G ro O H Dn)
  refine ⟨fun i m σ2 H2 => m = x.1.length - i ∧ P i σ2 H2, ⟨x.1.length, by simp, Nat.zero_le _, x.2, O1, s1.weak, w0, S1, q⟩, ?_⟩
  rintro i m σ2 H2 ⟨rfl, hi, st2, O2, s2, w2, S2, q2⟩
  obtain ⟨goes, stops⟩ := wt G.B i _ _ _ _ w2 S2
  by_cases hlt : i < x.1.length
  · obtain ⟨go, yl⟩ := goes hlt
    refine .inr ⟨go, P (i + 1), fun σ3 H3 h3 => ⟨x.1.length - (i + 1), by omega, rfl, h3⟩, fun v H3 hy => ?_⟩
    obtain ⟨d, ed, s3, S3, r3⟩ := yl v H3 hy
    have hd : x.1.drop i = d :: x.1.drop (i + 1) := by
      obtain ⟨h1, h2⟩ := List.getElem?_eq_some_iff.mp ed
      rw [List.drop_eq_getElem_cons h1, h2]
    rw [hd] at q2
    unfold forL at q2
    have w3 := wk _ _ _ _ _ _ _ w2 S2 s3.weak
    cases ea : asg p d st2 with
    | none => rw [ea] at q2; exact q2.elim
    | some st3 =>
      rw [ea] at q2
      refine ⟨st2, O2, d, st3, S3, r3, ea, fun σ3 S3' _ => ⟨st3, O2, S3', R.all_mono (fun f q => ?_) (R.all_bind q2)⟩⟩
      have s23 : Stp false G.hd O H O2 H3 := s2.trans s3.weak S3.hO
      have again : ∀ st4 : AS, (forL p b (x.1.drop (i + 1)) st4).all (FlP G ro O H Dn) → ∀ σ' H' O', Stp false G.hd O2 H3 O' H' → SR G st4 σ' H' O' → P (i + 1) σ' H' := fun st4 q σ' H' O' sp S' => ⟨hlt, st4, O', s23.trans sp S'.hO, wk _ _ _ _ _ _ _ w3 S3 sp, S', q⟩
      cases f with
      | nx st4 => exact again st4 q
      | ct st4 => exact again st4 q
      | bk st4 => exact fun σ' H' O' sp S' => q σ' H' O' (s23.trans sp S'.hO) S'
      | rt r => exact fun v H' O' st' σ' sp S' rr => q v H' O' st' σ' (s23.trans sp S'.hO) S' rr
  · have e : x.1.drop i = [] := List.drop_eq_nil_iff.mpr (by omega)
    rw [e] at q2
    exact .inl ⟨stops (by omega), q2 σ2 H2 O2 s2 S2⟩
def whL (t : MT) (b : MS) : Nat → AS → R Fl
  | 0, _ => .bad
  | n + 1, st => (t st).bind fun p => match p.1 with
    | true => (b p.2).bind fun f => match f with
      | .nx st2 => whL t b n st2
      | .ct st2 => whL t b n st2
      | .bk st2 => .ok (.nx st2)
      | .rt d => .ok (.rt d)
    | false => .ok (.nx p.2)
def sWh (n : Nat) (t : MT) (b : MS) : MS := whL t b n
theorem w_wh {n : Nat} {t : MT} {b : MS} (Dn : Ends) (σ : L2.St) (H : Hp) (q : TSm G ro (sWh n t b) Dn σ H) : tWhile (TB G true t) (TSm G ro b) Dn σ H := by
  obtain ⟨st, O, S, q⟩ := q
  refine ⟨fun m σ2 H2 => ∃ st2 O2, Stp false G.hd O H O2 H2 ∧ SR G st2 σ2 H2 O2 ∧ (whL t b m st2).all (FlP G ro O H Dn), ⟨n, st, O, Stp.refl, S, q⟩, ?_⟩
  rintro m σ2 H2 ⟨st2, O2, s2, S2, q2⟩
  cases m with
  | zero => exact q2.elim
  | succ m =>
    refine ⟨st2, O2, S2, R.all_mono (fun p q H3 O3 s3 S3 => ?_) (R.all_bind q2)⟩
    have s23 : Stp false G.hd O H O3 H3 := s2.trans s3.weak S3.hO
    cases e : p.1 with
    | false =>
      rw [e] at q
      exact iteF (q σ2 H3 O3 s23 S3)
    | true =>
      rw [e] at q
      refine iteT ⟨fun σ' H' => ∃ st2 O2, Stp false G.hd O H O2 H' ∧ SR G st2 σ' H' O2 ∧ (whL t b m st2).all (FlP G ro O H Dn), fun σ' H' h => ⟨m, Nat.lt_succ_self m, h⟩, p.2, O3, S3, R.all_mono (fun f q => ?_) (R.all_bind q)⟩
      cases f with
      | nx st4 => exact fun σ' H' O' sp S' => ⟨st4, O', s23.trans sp S'.hO, S', q⟩
      | ct st4 => exact fun σ' H' O' sp S' => ⟨st4, O', s23.trans sp S'.hO, S', q⟩
      | bk st4 => exact fun σ' H' O' sp S' => q σ' H' O' (s23.trans sp S'.hO) S'
      | rt r => exact fun v H' O' st' σ' sp S' rr => q v H' O' st' σ' (s23.trans sp S'.hO) S' rr
/-! lists that are owned, changed -/
theorem SR.mut {st : AS} {σ : L2.St} {H : Hp} {O : Addr → Prop} {i : Nat} {a : Addr} {d : D} {vs' : List V} {ds' : List D} (S : SR G st σ H O) (hk : G.kd i = true) (e : st[i]? = some (some d)) (ea : σ[i]? = some (some (.ref a))) (ho : O a) (hA : ∃ xs, H a = some (.lst xs)) (h : Shs G.K H (G.F O) vs' ds') :
    SR G (st.set i (some (.lst ds'))) σ (upd H a (.lst vs')) O ∧ Stp false G.hd O H O (upd H a (.lst vs')) := by
  have hh : ∀ x, G.hd = some x → x ≠ a ∧ G.hc ≠ a := fun x ex => ⟨fun z => S.bo a (z ▸ (S.hn x ex).1.1) ho, fun z => S.bo a (z ▸ (S.hn x ex).1.2.1) ho⟩
  refine ⟨⟨by simpa using S.len, fun j d' e' => ?_, fun j k d1 d2 b ne hj hk' e1 e2 e3 e4 => ?_, fun b z => ?_, S.bo, fun x ex => ?_⟩, fun b o eb nb _ => ?_, fun b z => .inl z⟩
  · rcases set_some e' with ⟨rfl, e1, hl⟩ | ⟨ne, e1⟩
    · cases e1
      refine ⟨_, ea, ?_⟩
      rw [hk]
      exact ⟨a, rfl, ho, ds', vs', rfl, upd_same, shs_set (.inr ho) hA h⟩
    · obtain ⟨v, e2, q⟩ := S.val j d' e1
      refine ⟨v, e2, ?_⟩
      cases hj : G.kd j with
      | true =>
        rw [hj] at q
        obtain ⟨b, rfl, hb, ds, vs, q1, q2, q3⟩ := q
        refine ⟨b, rfl, hb, ds, vs, q1, ?_, shs_set (.inr ho) hA q3⟩
        rw [upd_ne (fun (z : b = a) => S.ap i j d d' a ne hk hj e e1 ea (by rw [← z]; exact e2))]
        exact q2
      | false =>
        rw [hj] at q
        exact q.imp (sh_set (.inr ho) hA) id
  · have back : ∀ {j : Nat} {d1 : D}, (st.set i (some (.lst ds')))[j]? = some (some d1) → ∃ d0, st[j]? = some (some d0) := fun {j d1} q => by
      rcases set_some q with ⟨rfl, _, _⟩ | ⟨_, q⟩
      · exact ⟨d, e⟩
      · exact ⟨_, q⟩
    obtain ⟨x1, f1⟩ := back e1
    obtain ⟨x2, f2⟩ := back e2
    exact S.ap j k x1 x2 b ne hj hk' f1 f2 e3 e4
  · by_cases eb : b = a
    · subst eb; exact ⟨vs', upd_same⟩
    · obtain ⟨xs, q⟩ := S.tr b z
      exact ⟨xs, by rw [upd_ne eb]; exact q⟩
  · obtain ⟨q1, j, l, m, n, cs, q2, q3, q4⟩ := S.hn x ex
    exact ⟨q1, j, l, m, n, cs, by rw [upd_ne (hh x ex).1]; exact q2, by rw [upd_ne (hh x ex).2]; exact q3, q4⟩
  · rcases nb with nb | nb
    · cases nb
    · rw [upd_ne (fun (z : b = a) => nb (z ▸ ho))]
      exact eb
/-- what an owned slot holds -/
theorem SR.slot {st : AS} {σ : L2.St} {H : Hp} {O : Addr → Prop} {i : Nat} {d : D} (S : SR G st σ H O) (hk : G.kd i = true) (e : getS st i = some d) : ∃ a ds vs, d = .lst ds ∧ σ[i]? = some (some (.ref a)) ∧ O a ∧ H a = some (.lst vs) ∧ Shs G.K H (G.F O) vs ds := by
  obtain ⟨v, e1, q⟩ := S.val i d (getS_some e)
  rw [hk] at q
  obtain ⟨a, rfl, ho, ds, vs, e2, e3, e4⟩ := q
  exact ⟨a, ds, vs, e2, e1, ho, e3, e4⟩
def sApp (i : Nat) (m : ME) : MS := fun st => match getS st i with
  | some _ => (m st).bind fun p => match getS p.2 i with
    | some (.lst xs) => match isH p.1 || !(lenOk xs.length) with | true => .bad | false => .ok (.nx (p.2.set i (some (.lst (xs ++ [p.1])))))
    | _ => .bad
  | none => .bad
def sExt (i : Nat) (m : ME) : MS := fun st => match getS st i with
  | some _ => (m st).bind fun p => match getS p.2 i with
    | some (.lst xs) => match p.1 with
      | .lst ys => match lenOk (xs.length + ys.length) with | true => .ok (.nx (p.2.set i (some (.lst (xs ++ ys))))) | false => .bad
      | _ => .bad
    | _ => .bad
  | none => .bad
theorem w_app {i : Nat} {m : ME} (hk : G.kd i = true) (Dn : Ends) (σ : L2.St) (H : Hp) (q : TSm G ro (sApp i m) Dn σ H) : tDrop (tBM G.K "list" rAppend (tVar i) (L2.tCons (T G .sh pu m) L2.tNil)) Dn σ H := by
  obtain ⟨st, O, S, q⟩ := q
  unfold sApp at q
  cases e : getS st i with
  | none => rw [e] at q; exact q.elim
  | some d0 =>
    rw [e] at q
    obtain ⟨a, ds0, vs0, rfl, ea, ho, hA, h0⟩ := S.slot hk e
    refine ⟨_, ea, .inl ⟨rfl, vs0, .inl (.inl hA)⟩, st, O, S, R.all_mono (fun p q v H1 O1 s1 S1 r1 => ?_) (R.all_bind q)⟩
    cases e1 : getS p.2 i with
    | none => rw [e1] at q; exact q.elim
    | some d1 =>
      rw [e1] at q
      obtain ⟨b, ds, vs, rfl, eb, ho1, hB, h1⟩ := S1.slot hk e1
      rw [ea] at eb
      cases eb
      cases f : (isH p.1 || !(lenOk ds.length)) with
      | true => simp only [f] at q; exact q.elim
      | false =>
        simp only [f] at q
        rw [Bool.or_eq_false_iff] at f
        have r1 : Sh G.K H1 (G.F O1) v p.1 := by
          rcases r1 with r1 | ⟨z, _⟩
          · exact r1
          · rw [z] at f; cases f.1
        obtain ⟨S2, s2⟩ := S1.mut hk (getS_some e1) ea ho1 ⟨vs, hB⟩ (h1.append (.cons r1 .nil))
        exact ⟨a, vs, v, rfl, rfl, hB, by rw [h1.length]; exact lenOk_le (by simpa using f.2), q σ _ O1 (s1.weak.trans s2 S2.hO) S2⟩
theorem w_ext {i : Nat} {m : ME} (hk : G.kd i = true) (Dn : Ends) (σ : L2.St) (H : Hp) (q : TSm G ro (sExt i m) Dn σ H) : tDrop (tBM G.K "list" rExtend (tVar i) (L2.tCons (T G .ow pu m) L2.tNil)) Dn σ H := by
  obtain ⟨st, O, S, q⟩ := q
  unfold sExt at q
  cases e : getS st i with
  | none => rw [e] at q; exact q.elim
  | some d0 =>
    rw [e] at q
    obtain ⟨a, ds0, vs0, rfl, ea, ho, hA, h0⟩ := S.slot hk e
    refine ⟨_, ea, .inl ⟨rfl, vs0, .inl (.inl hA)⟩, st, O, S, R.all_mono (fun p q v H1 O1 s1 S1 r1 => ?_) (R.all_bind q)⟩
    obtain ⟨c, rfl, ⟨hc, es, ws, e2, hC, h2⟩, fr⟩ := r1
    cases e1 : getS p.2 i with
    | none => rw [e1] at q; exact q.elim
    | some d1 =>
      rw [e1] at q
      obtain ⟨b, ds, vs, rfl, eb, ho1, hB, h1⟩ := S1.slot hk e1
      rw [ea] at eb
      cases eb
      rw [e2] at q
      have q : (match lenOk (ds.length + es.length) with | true => R.ok (Fl.nx (p.2.set i (some (.lst (ds ++ es))))) | false => R.bad).all (FlP G ro O H Dn) := q
      cases f : lenOk (ds.length + es.length) with
      | false => rw [f] at q; exact q.elim
      | true =>
        rw [f] at q
        obtain ⟨S2, s2⟩ := S1.mut hk (getS_some e1) ea ho1 ⟨vs, hB⟩ (h1.append h2)
        exact ⟨a, c, vs, ws, rfl, rfl, hB, hC, by rw [h1.length, h2.length]; exact Nat.le_of_lt (lenOk_le f), q σ _ O1 (s1.weak.trans s2 S2.hO) S2⟩
/-- w.pop(): the last item -/
def mPop (i : Nat) : ME := fun st => match getS st i with
  | some (.lst xs) => match xs[xs.length - 1]? with | some d => .ok (d, st.set i (some (.lst xs.dropLast))) | none => .bad
  | _ => .bad
theorem Shs.dropLast {K : PySem.W.Frag} {H : Hp} {F : Addr → Prop} : ∀ {vs : List V} {ds : List D}, Shs K H F vs ds → Shs K H F vs.dropLast ds.dropLast
  | _, _, .nil => .nil
  | _, _, .cons _ .nil => .nil
  | _, _, .cons h (.cons h2 hs) => .cons h (Shs.dropLast (.cons h2 hs))
theorem w_pop {i : Nat} (hk : G.kd i = true) (σ : L2.St) (H : Hp) (Q : VK) (q : T G .sh false (mPop i) σ H Q) : tBM0 G.K "list" rPop (tVar i) σ H Q := by
  obtain ⟨st, O, S, q⟩ := q
  unfold mPop at q
  cases e : getS st i with
  | none => rw [e] at q; exact q.elim
  | some d0 =>
    rw [e] at q
    obtain ⟨a, ds, vs, rfl, ea, ho, hA, h0⟩ := S.slot hk e
    refine ⟨_, ea, .inl ⟨rfl, vs, .inl (.inl hA)⟩, ?_⟩
    have q : (match ds[ds.length - 1]? with | some d => R.ok (d, st.set i (some (.lst ds.dropLast))) | none => R.bad).all _ := q
    cases e1 : ds[ds.length - 1]? with
    | none => rw [e1] at q; exact q.elim
    | some d =>
      rw [e1] at q
      obtain ⟨v, e2, r⟩ := h0.get e1
      obtain ⟨S2, s2⟩ := S.mut hk (getS_some e) ea ho ⟨vs, hA⟩ h0.dropLast
      exact ⟨a, vs, v, rfl, rfl, hA, by rw [h0.length]; exact e2, q v _ O s2 S2 (.inl (sh_set (.inr ho) ⟨vs, hA⟩ r))⟩
/-- w.pop(k) -/
def mPopAt (i : Nat) (m : ME) : ME := fun st => match getS st i with
  | some _ => (m st).bind fun p => match getS p.2 i with
    | some (.lst xs) => match p.1 with
      | .int (.ofNat k) => match lenOk k with | true => (match xs[k]? with | some d => .ok (d, p.2.set i (some (.lst (xs.eraseIdx k)))) | none => .bad) | false => .bad
      | _ => .bad
    | _ => .bad
  | none => .bad
theorem Shs.erase {K : PySem.W.Frag} {H : Hp} {F : Addr → Prop} : ∀ {vs : List V} {ds : List D} (k : Nat), Shs K H F vs ds → Shs K H F (vs.eraseIdx k) (ds.eraseIdx k)
  | _, _, _, .nil => .nil
  | _, _, 0, .cons _ hs => hs
  | _, _, k + 1, .cons h hs => .cons h (Shs.erase k hs)
theorem w_popAt {i : Nat} {m : ME} (hk : G.kd i = true) (σ : L2.St) (H : Hp) (Q : VK) (q : T G .sh false (mPopAt i m) σ H Q) : tBM G.K "list" rPopAt (tVar i) (L2.tCons (T G .sh pu m) L2.tNil) σ H Q := by
  obtain ⟨st, O, S, q⟩ := q
  unfold mPopAt at q
  cases e : getS st i with
  | none => rw [e] at q; exact q.elim
  | some d0 =>
    rw [e] at q
    obtain ⟨a, ds0, vs0, rfl, ea, ho, hA, h0⟩ := S.slot hk e
    refine ⟨_, ea, .inl ⟨rfl, vs0, .inl (.inl hA)⟩, st, O, S, R.all_mono (fun p q v H1 O1 s1 S1 r1 => ?_) (R.all_bind q)⟩
    cases e1 : getS p.2 i with
    | none => rw [e1] at q; exact q.elim
    | some d1 =>
      rw [e1] at q
      obtain ⟨b, ds, vs, rfl, eb, ho1, hB, h1⟩ := S1.slot hk e1
      rw [ea] at eb
      cases eb
      obtain ⟨p1, p2⟩ := p
      cases p1 with
      | int z =>
        cases z with
        | ofNat k =>
          have q : (match lenOk k with | true => (match ds[k]? with | some d => R.ok (d, p2.set i (some (.lst (ds.eraseIdx k)))) | none => R.bad) | false => R.bad).all _ := q
          cases fk : lenOk k with
          | false => rw [fk] at q; exact q.elim
          | true =>
            simp only [fk] at q
            cases e3 : ds[k]? with
            | none => rw [e3] at q; exact q.elim
            | some d =>
              rw [e3] at q
              obtain ⟨w, e4, r⟩ := h1.get e3
              obtain ⟨S2, s2⟩ := S1.mut hk (getS_some e1) ea ho1 ⟨vs, hB⟩ (h1.erase k)
              have ev : v = .int k := VR.int (st := st) (σ := σ) (.inl r1)
              subst ev
              have hlt : k < vs.length := (List.getElem?_eq_some_iff.mp e4).1
              have hz := lenOk_le fk
              rw [sizeLine_eq] at hz
              refine ⟨a, vs, (k : Int), k, w, rfl, rfl, hB, by omega, by omega, ?_, e4, q w _ O1 (s1.weak.trans s2 S2.hO) S2 (.inl (sh_set (.inr ho1) ⟨vs, hB⟩ r))⟩
              exact (ixN_seq (i := (k : Int)) (j := k) (by unfold ixN; rw [if_pos (by omega), if_pos (by omega)]; simp)).1
        | negSucc k => exact q.elim
      | _ => exact q.elim
end
end EV
namespace EV
open PySem PySem.Spec PyProof.Rows L2 RZ
section
variable {prog : Program} {w : World} {A : Around} {E : Value → Shared → Prop} {s : Shared}
theorem rev_places (n : Nat) : Builtin.Slice.sliceAdjust none none (-1) (n : Int) = ((n : Int) - 1, -1) := by
  unfold Builtin.Slice.sliceAdjust
  simp
theorem rev_count (n : Nat) : Builtin.Slice.slicePlaces ((n : Int) - 1) (-1) (-1) = n := by
  unfold Builtin.Slice.slicePlaces
  rw [if_neg (by decide)]
  split
  · have : ((n : Int) - 1 - -1 - 1) / (- -1) + 1 = n := by
      rw [show (- -1 : Int) = 1 by decide, Int.ediv_one]
      omega
    rw [this]
    omega
  · omega
theorem rev_pick (xs : Array Value) : ((List.range xs.size).filterMap fun (k : Nat) => xs[((xs.size : Int) - 1 + (k : Int) * -1).toNat]?).toArray = xs.toList.reverse.toArray := by
  congr 1
  have e : ∀ k ∈ List.range xs.size, (fun (k : Nat) => xs[((xs.size : Int) - 1 + (k : Int) * -1).toNat]?) k = some (xs.toList.reverse.getD k .none) := fun k hk => by
    have hk := List.mem_range.mp hk
    have e1 : ((xs.size : Int) - 1 + (k : Int) * -1).toNat = xs.size - 1 - k := by omega
    show xs[((xs.size : Int) - 1 + (k : Int) * -1).toNat]? = _
    rw [e1, List.getD_eq_getElem?_getD, List.getElem?_reverse (by simpa using hk), ← Array.getElem?_toList, Array.length_toList, List.getElem?_eq_getElem (by simp; omega)]
    rfl
  have h2 : ∀ (l : List Nat) (f g : Nat → Option Value), (∀ k ∈ l, f k = g k) → l.filterMap f = l.filterMap g := fun l f g h => by
    induction l with
    | nil => rfl
    | cons a l ih => rw [List.filterMap_cons, List.filterMap_cons, h a (by simp), ih fun k hk => h k (by simp [hk])]
  rw [h2 _ _ (fun k => some (xs.toList.reverse.getD k .none)) e, List.filterMap_eq_map']
  refine List.ext_getElem? fun i => ?_
  by_cases hi : i < xs.size
  · rw [List.getElem?_map, List.getElem?_range hi]
    have hl : i < xs.toList.reverse.length := by simpa using hi
    show some (xs.toList.reverse.getD i .none) = _
    rw [List.getD_eq_getElem?_getD, List.getElem?_eq_getElem hl]
    rfl
  · rw [List.getElem?_eq_none (by simpa using hi), List.getElem?_eq_none (by simpa using hi)]
theorem getItem_tup_rev {t sl : Addr} {items : Array Value} {u : Tok} {Q : Value → Shared → Prop} (ht : IsTup s.heap t items) (hs : s.heap.IsSliceOf sl .none .none (.int (-1) u))
    (h : Q (.ref s.heap.objs.size) { s with heap := s.heap.push { cls := .type "tuple", data := .seq items.toList.reverse.toArray } }) (hz : items.size ≤ sizeLine) : wpAny (model prog w) A (getItem (.ref t) (.ref sl)) Q E s := by
  have hz2 : sizeOk (.seq items.toList.reverse.toArray) := by
    show items.toList.reverse.toArray.size ≤ sizeLine
    rw [List.size_toArray, List.length_reverse, Array.length_toList]
    exact hz
  obtain ⟨os, ho, hcs, hds⟩ := id hs
  have hT : s.TypeIs (.ref sl) "slice" := ⟨os, ho, hcs⟩
  unfold getItem
  try with_reducible refine wpAny_holding ?_
  first | refine wpAny_bind (wpAny_pure ?_) | skip
  refine wpAny_bind (wpAny_sequenceKey ht.typeIs (by decide) (wpAny_bind (wpAny_callSpecial?_slot (name := Str.ofString "__getitem__") ht.typeIs PyProof.Rows.slot_tuple_getitem (wpAny_call_entry PyProof.Rows.slot_tuple_getitem ht.typeIs entry_tuple_getitem ?_ (args_tuple_getitem _ _)))))
  show wpAny _ _ (Builtin.Tuple.tupleItemsOf (.ref t) >>= _) _ _ s
  refine wpAny_bind (tupleItemsOf_ ht (wpAny_bind (wpAny_typeOf hT ?_)))
  rw [if_pos (by decide)]
  refine wpAny_bind ?_
  show wpAny _ _ (Builtin.Slice.sliceApplied (.ref sl) (pure (items.size : Int))) _ _ s
  unfold Builtin.Slice.sliceApplied Builtin.Slice.sliceFields
  refine wpAny_bind (wpAny_bind (wpAny_field ho hds (x := .none) rfl (wpAny_bind (wpAny_field ho hds (x := .none) rfl (wpAny_bind (wpAny_field ho hds (x := .int (-1) u) rfl (wpAny_pure ?_)))))))
  refine wpAny_bind (HT.slicePart_ (.int (-1) u) ?_)
  show wpAny _ _ (if ((-1 : Int) == 0) = true then _ else _) _ _ s
  rw [if_neg (by decide)]
  refine wpAny_bind (HT.slicePart_ .none (wpAny_bind (HT.slicePart_ .none (wpAny_bind (wpAny_pure ?_)))))
  show wpAny _ _ (match Builtin.Slice.sliceAdjust none none (-1) (items.size : Int) with | (lo, hi) => pure (lo, (-1 : Int), Builtin.Slice.slicePlaces lo hi (-1))) _ _ s
  rw [rev_places]
  show wpAny _ _ (pure ((items.size : Int) - 1, (-1 : Int), Builtin.Slice.slicePlaces ((items.size : Int) - 1) (-1) (-1))) _ _ s
  rw [rev_count]
  refine wpAny_pure ?_
  show wpAny _ _ (if (((items.size : Int) - 1) == 0 && (-1 : Int) == 1 && items.size == items.size) = true then _ else _) _ _ s
  have no : ¬ ((((items.size : Int) - 1) == 0 && (-1 : Int) == 1 && items.size == items.size) = true) := by simp
  rw [if_neg no, rev_pick]
  first
    | exact wpAny_bind (m := Builtin.Tuple.tupleExact _) (wpAny_newObj_type (wpAny_pure ⟨_, rfl, wpAny_pure h⟩) hz2)
    | exact wpAny_bind (wpAny_bind (m := Builtin.Tuple.tupleExact _) (wpAny_newObj_type (wpAny_pure (wpAny_pure ⟨_, rfl, wpAny_pure h⟩)) hz2))
end
def rRev (K : PySem.W.Frag) : V → Hp → VK → Prop := fun x H Q => ∃ a xs, x = .ref a ∧ ((SqL K H a xs ∧ ∀ p, H p = none → Q (.ref p) (upd H p (.lst xs.reverse))) ∨ (SqT K H a xs ∧ ∀ p, H p = none → Q (.ref p) (upd H p (.tup xs.reverse))))
section
variable {X : Cx} {G : Cn}
theorem pe_rev {e : Expr} {te : TE} {k : Nat} {p1 p2 p3 pos : Pos} (he : PE X e te) : PE X (.Subscript e (.Slice none none (some (.UnaryOp .USub (.Constant (.int 1) k p1) p2)) p3) pos) (tUn (rRev X.K) te) := by
  refine ⟨fun pins s σ H Q I h => Subscript_ (thn (he.run pins s σ H _ I h) fun v s1 z => ?_)⟩
  obtain ⟨x, H1, I1, r1, a, xs, rfl, q⟩ := z
  cases r1
  have stp : PO X (some (.UnaryOp .USub (.Constant (.int 1) k p1) p2)) (tPart (tUn (rU fun i => .int (-i)) (tC (.int 1)))) := po_some (pe_un un_neg pe_int)
  refine wpAny_Slice (thn (po_none.run pins s1 σ H1 (fun o Z => o = none ∧ Z = H1) I1 ⟨rfl, rfl⟩) fun vl s2 z2 => ?_)
  obtain ⟨l, H2, I2, pl, rfl, rfl⟩ := z2
  refine thn (po_none.run pins s2 σ H2 (fun o Z => o = none ∧ Z = H2) I2 ⟨rfl, rfl⟩) fun vu s3 z3 => ?_
  obtain ⟨u, H3, I3, pu, rfl, rfl⟩ := z3
  refine thn (stp.run pins s3 σ H3 (fun o Z => o = some (-1) ∧ Z = H3) I3 ⟨1, rfl, -1, rfl, rfl, rfl⟩) fun vs s4 z4 => ?_
  obtain ⟨o, H4, I4, ps, rfl, rfl⟩ := z4
  have I5 : Inv X pins σ H4 { s4 with heap := s4.heap.push { cls := .type "slice", data := .fields #[vl, vu, vs] } } := I4.kept (t' := s4.toks) fun b ob y => Heap.get?_push_of_some _ y
  show wpAny (model X.prog X.w) X.A (subscriptTail e (.Slice none none (some (.UnaryOp .USub (.Constant (.int 1) k p1) p2)) p3) (.ref a) (.ref s4.heap.objs.size)) (EP X pins σ Q) X.xe { s4 with heap := s4.heap.push { cls := .type "slice", data := .fields #[vl, vu, vs] } }
  rcases q with ⟨hx, q⟩ | ⟨hx, q⟩
  · obtain ⟨its, r, ht, hz⟩ := I5.list hx
    have hlen := r.length
    refine tail_any (ops := [.ref a, .ref s4.heap.objs.size]) ht.isList.typeIs (PySem.slot_list_getitem.lookup) (wpAny_getItem_list_slice ht.isList (Heap.IsSliceOf.new _ vl vu vs) pl pu ps (by decide) ?_ (by rw [List.size_toArray]; omega)) (by with_unfolding_all rfl)
    rw [PySem.W.krv_pick]
    exact ⟨.ref _, _, I5.laid (t' := s4.toks) (o := .lst xs.reverse) (fun b ob y => Heap.get?_push_of_some _ y) (Nat.le_refl _) ⟨by rw [List.length_reverse]; exact hz, _, 0, r.reverse, Heap.get?_push_size _ rfl⟩, rfl, q _ (I5.hok.fresh (Nat.le_refl _))⟩
  · obtain ⟨its, r, ht, hz⟩ := I5.tuple hx
    have hlen := r.length
    cases pl
    cases pu
    cases ps
    refine tail_any (ops := [.ref a, .ref s4.heap.objs.size]) ht.typeIs PyProof.Rows.slot_tuple_getitem.lookup (getItem_tup_rev ht (Heap.IsSliceOf.new _ _ _ _) ?_ (by rw [List.size_toArray]; omega)) (by with_unfolding_all rfl)
    exact ⟨.ref _, _, I5.laid (t' := s4.toks) (o := .tup xs.reverse) (fun b ob y => Heap.get?_push_of_some _ y) (Nat.le_refl _) ⟨by rw [List.length_reverse]; exact hz, _, r.reverse, IsTup.new _ _⟩, rfl, q _ (I5.hok.fresh (Nat.le_refl _))⟩
theorem ow_sh {st : AS} {σ : L2.St} {H : Hp} {O O' : Addr → Prop} {H' : Hp} {v : V} {d : D} {Q : VK} (sp : Stp true G.hd O H O' H') (S : SR G st σ H' O') (r : VR G .ow st σ H' O' v d) (q : ∀ v' H' O', Stp true G.hd O H O' H' → SR G st σ H' O' → VR G .sh st σ H' O' v' d → Q v' H') : Q v H' := by
  obtain ⟨a, rfl, ⟨ho, ds, vs, rfl, e2, e3⟩, hn⟩ := r
  exact q _ H' (fun b => O' b ∧ b ≠ a) sp.give (S.give hn) (.inl (.lst (.inl e2) (fun z => z.elim (fun z => S.bo a z ho) fun z => z.2 rfl) (e3.mono fun c z => z.elim .inl fun z => .inr z.1)))
theorem u_rev {own : Bool} : U1 G (kOf own) (oRev own) (rRev G.K) := by
  intro st σ H O v d d' Q S hv ho q
  cases d with
  | lst xs =>
    cases ho
    obtain ⟨a, vs, rfl, ha, hvs⟩ := hv.lst
    refine ⟨a, vs, rfl, .inl ⟨Rd.sql ha, fun p hp => ?_⟩⟩
    obtain ⟨s1, S1, r1⟩ := end_lst S hp hvs.rev
    cases own with
    | true => exact q _ _ _ s1 S1 r1
    | false => exact ow_sh s1 S1 r1 q
  | tup xs =>
    cases own with
    | true => cases ho
    | false =>
      cases ho
      obtain ⟨a, vs, rfl, ha, hvs⟩ := hv.tup
      refine ⟨a, vs, rfl, .inr ⟨ha, fun p hp => ?_⟩⟩
      obtain ⟨s1, S1, r1⟩ := end_tup S hp hvs.rev
      exact q _ _ _ s1 S1 r1
  | _ => cases ho
end
end EV
/-! more words: an item stored, a name added to, least and greatest, enumerate, two new lists at once -/
namespace EV
open PySem PySem.Spec PyProof.Rows L2 RZ
section
variable {X : Cx} {G : Cn} {ro pu : Bool}
/-- x op= e, whole numbers -/
def sAug (f : Int → Int → Int) (i : Nat) (m : ME) : MS := fun st => match getS st i with
  | some (.int x) => (m st).bind fun y => match y.1 with | .int z => .ok (.nx (y.2.set i (some (.int (f x z))))) | _ => .bad
  | _ => .bad
theorem w_aug {f : Int → Int → Int} {i : Nat} {m : ME} (hk : G.kd i = false) (Dn : Ends) (σ : L2.St) (H : Hp) (q : TSm G ro (sAug f i m) Dn σ H) : tAug i (T G .sh pu m) (ipI f) Dn σ H := by
  obtain ⟨st, O, S, q⟩ := q
  unfold sAug at q
  cases e : getS st i with
  | none => rw [e] at q; exact q.elim
  | some d =>
    rw [e] at q
    cases d with
    | int x =>
      obtain ⟨v, e1, r⟩ := S.val i _ (getS_some e)
      rw [hk] at r
      have ev : v = .int x := VR.int (st := st) (σ := σ) (O := O) (.inl r)
      subst ev
      refine ⟨.int x, e1, st, O, S, R.all_mono (fun y q w H1 O1 s1 S1 r1 => ?_) (R.all_bind q)⟩
      obtain ⟨d, st1⟩ := y
      cases d with
      | int z =>
        have ew : w = .int z := VR.int (st := st1) (σ := σ) (O := O1) (.inl r1)
        subst ew
        exact ⟨x, z, rfl, rfl, q _ H1 O1 s1.weak (S1.putS hk (.inl (.int _)))⟩
      | _ => exact q.elim
    | _ => exact q.elim
/-- the lesser, the greater of two -/
def oMin2 : D → D → Option D := oI fun i j => some (.int (if j < i then j else i))
def oMax2 : D → D → Option D := oI fun i j => some (.int (if j > i then j else i))
theorem w_c2 {op : D → D → Option D} {r : List V → Hp → VK → Prop} {m n : ME} (hu : U2 G .sh op (fun x y H Q => r [x, y] H Q)) (σ : L2.St) (H : Hp) (Q : VK) (q : T G .sh true (m2 op m n) σ H Q) : tCB r (L2.tCons (T G .br true m) (L2.tCons (T G .br true n) L2.tNil)) σ H Q := w_2 hu σ H Q q
theorem u_min2 : U2 G .sh oMin2 (fun x y H Q => ∃ i j, [x, y] = [V.int i, V.int j] ∧ Q (.int (if j < i then j else i)) H) := by
  intro st σ H O v w d e d' Q S hv hw ho q
  cases d with
  | int i =>
    cases e with
    | int j =>
      cases ho
      rw [hv.int, hw.int]
      exact ⟨i, j, rfl, q _ H O Stp.refl S (.inl (.int _))⟩
    | _ => cases ho
  | _ => cases e <;> cases ho
theorem u_max2 : U2 G .sh oMax2 (fun x y H Q => ∃ i j, [x, y] = [V.int i, V.int j] ∧ Q (.int (if j > i then j else i)) H) := by
  intro st σ H O v w d e d' Q S hv hw ho q
  cases d with
  | int i =>
    cases e with
    | int j =>
      cases ho
      rw [hv.int, hw.int]
      exact ⟨i, j, rfl, q _ H O Stp.refl S (.inl (.int _))⟩
    | _ => cases ho
  | _ => cases e <;> cases ho
/-- the least, the greatest of a list of whole numbers -/
def minI (x : Int) : List Int → Int
  | [] => x
  | y :: r => minI (if y < x then y else x) r
def maxI (x : Int) : List Int → Int
  | [] => x
  | y :: r => maxI (if x < y then y else x) r
theorem minI_ok : ∀ (l : List Int) (x : Int), minI x l ∈ x :: l ∧ ∀ y ∈ x :: l, minI x l ≤ y
  | [], x => ⟨by simp [minI], by simp [minI]⟩
  | z :: r, x => by
    obtain ⟨h1, h2⟩ := minI_ok r (if z < x then z else x)
    unfold minI
    have h3 := h2 _ (List.mem_cons_self ..)
    have h4 : (if z < x then z else x) ≤ x ∧ (if z < x then z else x) ≤ z := by split <;> omega
    refine ⟨?_, fun y hy => ?_⟩
    · rcases List.mem_cons.mp h1 with h | h
      · rw [h]; split <;> simp
      · simp [h]
    · rcases List.mem_cons.mp hy with h | h
      · rw [h]; exact Int.le_trans h3 h4.1
      · rcases List.mem_cons.mp h with h | h
        · rw [h]; exact Int.le_trans h3 h4.2
        · exact h2 y (by simp [h])
theorem maxI_ok : ∀ (l : List Int) (x : Int), maxI x l ∈ x :: l ∧ ∀ y ∈ x :: l, y ≤ maxI x l
  | [], x => ⟨by simp [maxI], by simp [maxI]⟩
  | z :: r, x => by
    obtain ⟨h1, h2⟩ := maxI_ok r (if x < z then z else x)
    unfold maxI
    have h3 := h2 _ (List.mem_cons_self ..)
    have h4 : x ≤ (if x < z then z else x) ∧ z ≤ (if x < z then z else x) := by split <;> omega
    refine ⟨?_, fun y hy => ?_⟩
    · rcases List.mem_cons.mp h1 with h | h
      · rw [h]; split <;> simp
      · simp [h]
    · rcases List.mem_cons.mp hy with h | h
      · rw [h]; exact Int.le_trans h4.1 h3
      · rcases List.mem_cons.mp h with h | h
        · rw [h]; exact Int.le_trans h4.2 h3
        · exact h2 y (by simp [h])
def oMinL : D → Option D
  | .lst xs => (match ints? xs with | some (x :: r) => some (.int (minI x r)) | _ => none)
  | _ => none
def oMaxL : D → Option D
  | .lst xs => (match ints? xs with | some (x :: r) => some (.int (maxI x r)) | _ => none)
  | _ => none
theorem u_minL : U1 G .sh oMinL (fun x H Q => rMin G.K [x] H Q) := by
  intro st σ H O v d d' Q S hv ho q
  cases d with
  | lst xs =>
    obtain ⟨a, vs, rfl, h, hs⟩ := hv.lst
    unfold oMinL at ho
    dsimp only at ho
    split at ho
    · rename_i x r e
      cases ho
      obtain ⟨h1, h2⟩ := minI_ok r x
      refine ⟨a, x :: r, rfl, by rw [← ints_of e hs]; exact .inl h, Nat.succ_pos _, fun m hm hle => ?_⟩
      have : m = minI x r := Int.le_antisymm (hle _ h1) (h2 _ hm)
      rw [this]
      exact q _ H O Stp.refl S (.inl (.int _))
    · cases ho
  | _ => cases ho
theorem u_maxL : U1 G .sh oMaxL (fun x H Q => rMax G.K [x] H Q) := by
  intro st σ H O v d d' Q S hv ho q
  cases d with
  | lst xs =>
    obtain ⟨a, vs, rfl, h, hs⟩ := hv.lst
    unfold oMaxL at ho
    dsimp only at ho
    split at ho
    · rename_i x r e
      cases ho
      obtain ⟨h1, h2⟩ := maxI_ok r x
      refine ⟨a, x :: r, rfl, by rw [← ints_of e hs]; exact .inl h, Nat.succ_pos _, fun m hm hle => ?_⟩
      have : m = maxI x r := Int.le_antisymm (h2 _ hm) (hle _ h1)
      rw [this]
      exact q _ H O Stp.refl S (.inl (.int _))
    · cases ho
  | _ => cases ho
/-- w[k] = e, w owned -/
def sSet (i : Nat) (mk mv : ME) : MS := fun st => (mv st).bind fun x => match getS x.2 i with
  | none => .bad
  | some _ => (mk x.2).bind fun y => match getS y.2 i with
    | some (.lst ds) => (match y.1 with
      | .int k => (match ixN ds.length k with
        | some j => (match isH x.1 with | true => .bad | false => .ok (.nx (y.2.set i (some (.lst (ds.set j x.1))))))
        | none => .bad)
      | _ => .bad)
    | _ => .bad
theorem w_set {i : Nat} {mk mv : ME} (hk : G.kd i = true) (Dn : Ends) (σ : L2.St) (H : Hp) (q : TSm G ro (sSet i mk mv) Dn σ H) : tAsg (T G .sh pu mv) (gSub (tVar i) (T G .sh true mk) rSetL) Dn σ H := by
  obtain ⟨st, O, S, q⟩ := q
  refine ⟨st, O, S, R.all_mono (fun x q v H1 O1 s1 S1 r1 => ?_) (R.all_bind q)⟩
  cases e0 : getS x.2 i with
  | none => rw [e0] at q; exact q.elim
  | some d0 =>
    rw [e0] at q
    obtain ⟨a, ds0, vs0, rfl, ea, ho, hA, h0⟩ := S1.slot hk e0
    refine ⟨_, ea, x.2, O1, S1, R.all_mono (fun y q w H2 O2 s2 S2 r2 => ?_) (R.all_bind q)⟩
    obtain ⟨y1, y2⟩ := y
    cases e1 : getS y2 i with
    | none => simp only [e1] at q; exact q.elim
    | some d1 =>
      simp only [e1] at q
      obtain ⟨b, ds, vs, rfl, eb, ho1, hB, h1⟩ := S2.slot hk e1
      rw [ea] at eb
      cases eb
      cases y1 with
      | int k =>
        cases ej : ixN ds.length k with
        | none => simp only [ej] at q; exact q.elim
        | some j =>
          simp only [ej] at q
          cases f : isH x.1 with
          | true => simp only [f] at q; exact q.elim
          | false =>
            simp only [f] at q
            have ew : w = .int k := VR.int (st := y2) (σ := σ) (O := O2) (.inl r2)
            subst ew
            have r1' : ShR G.K G.hd H2 (G.F O2) v x.1 := S1.car s2 r1
            have r3 : Sh G.K H2 (G.F O2) v x.1 := by
              rcases r1' with r | ⟨z, _⟩
              · exact r
              · rw [z] at f; cases f
            obtain ⟨S3, s3⟩ := S2.mut hk (getS_some e1) ea ho1 ⟨_, hB⟩ (h1.set j r3)
            refine ⟨a, vs, k, j, rfl, rfl, hB, by rw [h1.length]; exact ej, ?_⟩
            exact q _ _ O2 ((s1.weak.trans s2.weak S2.hO).trans s3 S3.hO) S3
      | _ => exact q.elim
/-- enumerate -/
theorem it_enum {H : Hp} {O : Addr → Prop} {a : Addr} {vs : List V} {xs : List D} (ha : Rd H a (.lst vs)) (na : ¬ G.F O a) (hx : Shs G.K H (G.F O) vs xs) : ItOk G false (Ite G.K a) (enumD 0 xs) H O := by
  refine ⟨fun B H O => (Rd H a (.lst vs) ∧ ¬ (G.at B).F O a) ∧ Shs G.K H ((G.at B).F O) vs xs, ⟨⟨ha, na⟩, hx⟩, ?_, ?_, ?_, ?_⟩
  · rintro B st σ H O H' O' ⟨⟨h1, h2⟩, h5⟩ S sp
    exact ⟨stab S sp h1 h2, S.cars0 sp h5⟩
  · rintro B i st σ H O ⟨⟨h1, h2⟩, h5⟩ S
    refine ⟨fun hi => ?_, fun hi => ⟨vs, .inl h1, by rw [enumD_len] at hi; rw [h5.length]; exact hi⟩⟩
    rw [enumD_len] at hi
    obtain ⟨v, e1, r1⟩ := h5.get (List.getElem?_eq_getElem hi)
    refine ⟨⟨vs, v, .inl h1, e1⟩, ?_⟩
    rintro x H' ⟨A, x1, ex, hA, eH, f1⟩
    have g1 := f1 vs (.inl h1)
    rw [e1] at g1
    cases g1
    refine ⟨_, enumD_get (k := 0) (List.getElem?_eq_getElem hi), yld_pair S (.int _) r1 hA ex ?_⟩
    rw [Int.zero_add]
    exact eH
  · rintro B A st σ H O ⟨⟨h1, h2⟩, h5⟩ S hA
    exact ⟨⟨rd_upd hA h1, nF_add hA h1 h2⟩, shs_add hA h5⟩
  · rintro B A zs H O ⟨⟨h1, h2⟩, h5⟩ hB hA
    exact ⟨⟨rd_set (fun z => h2 (.inl (z ▸ hB))) h1, h2⟩, shs_set (.inl hB) hA h5⟩
theorem i_enum {a : Expr} {m : ME} {p pos tpos : Pos} {elts : List Expr} {kk : Nat} (hK : X.K = G.K) (hg : Gl X "enumerate") (hm : X.mg "enumerate" = none) (ha : PE X a (T G .sh pu m)) (hs : notStar a = true) :
    PI X (.Tuple elts kk tpos) (.Call (.Name "enumerate" p) [a] [] pos) (TSrc G pu false (sEnum m)) :=
  PI.weak (pi_enum hg hm (pa_cons ha pa_nil (star_of hs)) (star_of hs)) fun σ H Z q => by
  obtain ⟨st, O, S, q⟩ := q
  refine ⟨st, O, S, R.all_mono (fun p q v H1 O1 s1 S1 r1 => ?_) (R.all_bind q)⟩
  obtain ⟨d, st1⟩ := p
  cases d with
  | lst xs =>
    rcases r1 with r1 | ⟨z, _⟩
    · cases r1 with
      | lst hr hf hss =>
        rw [hK]
        exact ⟨_, _, rfl, .inl hr, q _ H1 O1 s1 S1 (it_enum hr hf hss)⟩
    · cases z
  | _ => exact q.elim
/-- an owned list that no slot holds goes to the base -/
theorem SR.toB {B : Addr → Prop} {st : AS} {σ : L2.St} {H : Hp} {O : Addr → Prop} {A : Addr} (S : SR (G.at B) st σ H O) (hO : O A) (fr : ∀ (i : Nat) (d' : D), G.kd i = true → st[i]? = some (some d') → σ[i]? ≠ some (some (.ref A))) : SR (G.at fun b => B b ∨ b = A) st σ H (fun b => O b ∧ b ≠ A) := by
  have hf : ∀ b, (G.at fun b => B b ∨ b = A).F (fun b => O b ∧ b ≠ A) b → (G.at B).F O b := fun b z => by
    rcases z with (z | z) | z
    · exact .inl z
    · exact .inr (z ▸ hO)
    · exact .inr z.1
  refine ⟨S.len, fun i d e => ?_, S.ap, fun b z => S.tr b (hf b z), fun b hb z => ?_, S.hn.up fun _ z => .inl z⟩
  · obtain ⟨v, e1, q⟩ := S.val i d e
    refine ⟨v, e1, ?_⟩
    have hk' : (G.at fun b => B b ∨ b = A).kd i = G.kd i := rfl
    have hk2 : (G.at B).kd i = G.kd i := rfl
    rw [hk2] at q
    rw [hk']
    cases hk : G.kd i with
    | true =>
      rw [hk] at q
      obtain ⟨b, rfl, ho, ds, vs, e2, e3, e4⟩ := q
      exact ⟨b, rfl, ⟨ho, fun z => fr i d hk e (by rw [e1, z])⟩, ds, vs, e2, e3, e4.mono hf⟩
    | false =>
      rw [hk] at q
      exact ShR.mono hf q
  · rcases hb with hb | hb
    · exact S.bo b hb z.1
    · exact z.2 hb
/-- two new lists, to two names -/
def sParO (i j : Nat) (a b : ME) : MS := fun st => (a st).bind fun x => (b x.2).bind fun y => .ok (.nx ((y.2.set i (some x.1)).set j (some y.1)))
theorem w_parO {i j : Nat} {a b : ME} (hi : G.kd i = true) (hj : G.kd j = true) (hij : i ≠ j) (Dn : Ends) (σ : L2.St) (H : Hp) (q : TSm G ro (sParO i j a b) Dn σ H) : tPar i j (L2.tCons (T G .ow pu a) (L2.tCons (fun σ H Q => ∃ B, T (G.at B) .ow true b σ H Q) L2.tNil)) Dn σ H := by
  obtain ⟨st, O, S, q⟩ := q
  refine ⟨st, O, S, R.all_mono (fun x q v H1 O1 s1 S1 r1 => ?_) (R.all_bind q)⟩
  obtain ⟨A, rfl, ⟨ho, ds, vs, ed, eA, hs⟩, fr⟩ := r1
  have nB : ¬ G.B A := fun z => S1.bo A z ho
  have nh : G.hd ≠ some A := fun z => nB (S1.hn A z).1.1
  have S1' : SR (G.at fun c => G.B c ∨ c = A) x.2 σ H1 (fun c => O1 c ∧ c ≠ A) := SR.toB (G := G) (B := G.B) S1 ho fr
  refine ⟨fun c => G.B c ∨ c = A, x.2, _, S1', R.all_mono (fun y q w H2 O2 s2 S2 r2 => ?_) (R.all_bind q)⟩
  obtain ⟨A2, rfl, ⟨ho2, ds2, vs2, ed2, eA2, hs2⟩, fr2⟩ := r2
  have nA : ¬ O2 A := S2.bo A (.inr rfl)
  have neA : A2 ≠ A := fun z => nA (z ▸ ho2)
  have kA : H2 A = some (.lst vs) := s2.pr A _ eA (.inl rfl) nh
  have hs' : Shs G.K H1 ((G.at fun c => G.B c ∨ c = A).F fun c => O1 c ∧ c ≠ A) vs ds := hs.mono fun c z => by
    rcases z with (z | z) | z
    · exact .inl z
    · exact .inr (z ▸ ho)
    · exact .inr z.1
  have hs3 : Shs G.K H2 ((G.at fun c => G.B c ∨ c = A).F O2) vs ds := S1'.cars0 s2 hs'
  have hbh : ∀ c, G.hd = some c → G.B c ∧ G.B G.hc := fun c ec => ⟨(S.hn c ec).1.1, (S.hn c ec).1.2.1⟩
  have S3 : SR G y.2 σ H2 (fun c => O2 c ∨ c = A) := SR.unB (G := G) (B := G.B) S2 nB hbh
  have sp : Stp pu G.hd O H (fun c => O2 c ∨ c = A) H2 := by
    have s1' : Stp pu G.hd O1 H1 (fun c => O2 c ∨ c = A) H2 := ⟨fun c o e _ n => s2.pr c o e (.inl rfl) n, fun c z => z.elim (fun z => (s2.nw c z).imp (fun z => z.1) id) fun z => .inl (z ▸ ho)⟩
    exact s1.trans s1' S3.hO
  have lv : ∀ (k : Nat) (d' : D), G.kd k = true → y.2[k]? = some (some d') → ∃ c, σ[k]? = some (some (.ref c)) ∧ O2 c := fun k d' hk e => by
    obtain ⟨v, e1, r⟩ := S2.val k d' e
    have hk' : (G.at fun c => G.B c ∨ c = A).kd k = true := hk
    rw [hk'] at r
    obtain ⟨c, rfl, oc, _⟩ := r
    exact ⟨c, e1, oc⟩
  have fF : ∀ c, G.F (fun c => O2 c ∨ c = A) c → (G.at fun c => G.B c ∨ c = A).F O2 c := fun c z => by
    rcases z with z | z | z
    · exact .inl (.inl z)
    · exact .inr z
    · exact .inl (.inr z)
  have S4 := S3.putO (i := i) (a := A) (d := x.1) hi ⟨.inr rfl, ds, vs, ed, kA, hs3.mono fF⟩ fun k d' hk hkk e z => by
    obtain ⟨c, e1, oc⟩ := lv k d' hkk e
    rw [e1] at z
    cases z
    exact nA oc
  have S5 := S4.putO (i := j) (a := A2) (d := y.1) hj ⟨.inl ho2, ds2, vs2, ed2, eA2, hs2.mono fF⟩ fun k d' hk hkk e z => by
    by_cases ki : k = i
    · subst ki
      have hl : k < σ.length := by
        rcases Nat.lt_or_ge k σ.length with h | h
        · exact h
        · rw [List.getElem?_eq_none (by simpa using h)] at z; cases z
      rw [List.getElem?_set_self hl] at z
      cases z
      exact neA rfl
    · rw [List.getElem?_set_ne (Ne.symm ki)] at z e
      exact fr2 k d' hkk e z
  exact ⟨_, _, rfl, q _ H2 _ sp.weak S5⟩
end
end EV
/-! lists and tuples so many times, w[k] op= e -/
namespace L2
open PySem PySem.Spec PyProof.Rows
theorem tuple_mul1 (l : Addr) (items : Array Value) (n : Nat) (dd : Option Addr) (sl : Array (Option Value)) (u : Tok) (hi : items.isEmpty = false) :
    Meets (Builtin.«tuple.__mul__» ⟨[.ref l, .int 1 u], []⟩) (fun _ R s => s.heap.get? l = some { cls := .type "tuple", dict := dd, data := .seq items n, slots := sl } ∧ R (.ok (.ret (Value.ref l))) s) :=
  .of_wp fun prog w A R s h => by
    obtain ⟨hp, g, d, tk, os⟩ := s
    obtain ⟨hl, h⟩ := h
    have f1 := AutoSeq1.idx_int
    wp_walk using wpAny_loadPart' hl
    exact ⟨_, rfl, h⟩
section
variable {X : Cx}
/-- t * 1 is t -/
theorem op_repT1 : OpR X (binaryOp .Mult) (fun x y H Q => ∃ l xs, x = .ref l ∧ y = .int 1 ∧ SqT X.K H l xs ∧ xs ≠ [] ∧ Q (.ref l) H) := by
  intro pins s σ H x y v u Q I rx ry h
  obtain ⟨l, xs, rfl, rfl, hT, hne, q⟩ := h
  cases rx
  obtain ⟨t, rfl⟩ := ry
  obtain ⟨its, r, ⟨⟨cls, dd, data, sl⟩, ho, hc, n, hd⟩, hs⟩ := I.tuple hT
  simp only at hc hd
  subst hc hd
  have hle : its.length = xs.length := r.length.symm
  have hi : its.toArray.isEmpty = false := by
    cases its with
    | nil => exact absurd (List.eq_nil_of_length_eq_zero (hle.symm.trans rfl)) hne
    | cons a b => rfl
  exact wpAny_binaryOp_repeat_ref (T := "tuple") (U := "int") (by decide) ⟨_, ho, rfl⟩ (fun s' => typeIs_int s' 1 t) noFill_tuple_mul F.fills_int_mul F.slot_int_rmul repeat_tuple F.slot_int_index.lookup
    (call_meets F.slot_int_rmul (typeIs_int s 1 t) F.entry_int_rmul (F.args_int_rmul_2 _ _) (int_rmul_tuple 1 t l its.toArray n dd sl)
      ⟨ho, rfl, ⟨_, ho, rfl⟩, call_meets F.slot_tuple_mul ⟨_, ho, rfl⟩ F.entry_tuple_mul (F.args_tuple_mul_2 _ _) (tuple_mul1 l its.toArray n dd sl t hi) ⟨ho, ⟨.ref l, H, I, rfl, q⟩⟩⟩)
/-- a list's item, by values -/
theorem get_list : PGet X (fun o i H Q => rIxL X.K o i H Q) := by
  intro pins s σ H x y v u Q I rx ry h
  obtain ⟨p, xs, i, z, rfl, rfl, hq, he, q⟩ := h
  cases rx
  obtain ⟨t, rfl⟩ := ry
  obtain ⟨its, r, pl, hz⟩ := I.list hq
  obtain ⟨j, h1, h2, h3, h4, h5⟩ := atI_get he
  obtain ⟨w, ew, rw'⟩ := r.get h2
  have hl := r.length
  have hn := line63
  have fin : EP X pins σ Q w s := ⟨z, H, I, rw', q⟩
  by_cases h0 : 0 ≤ i
  · have hj : i.toNat = j := by
      rw [seqIndex_of h0 h5] at h1
      exact Option.some.inj h1
    exact wpAny_getItem_list pl.isList h0 (by omega) (by rw [hj]; simpa using ew) fin
  · have hj : (i + (its.toArray.size : Int)).toNat = j := by
      rw [seqIndex_neg (by omega) h4] at h1
      rw [List.size_toArray, ← hl]
      exact Option.some.inj h1
    exact wpAny_getItem_list_neg pl.isList (by omega) (by rw [List.size_toArray] <;> omega) (by omega) (by rw [hj]; simpa using ew) fin
end
end L2
namespace EV
open PySem PySem.Spec PyProof.Rows L2 RZ
section
variable {X : Cx} {G : Cn} {ro pu : Bool}
theorem Shs.rep {K : PySem.W.Frag} {H : Hp} {F : Addr → Prop} {vs : List V} {ds : List D} (h : Shs K H F vs ds) : ∀ n : Nat, Shs K H F (List.replicate n vs).flatten (List.replicate n ds).flatten
  | 0 => .nil
  | n + 1 => by
    rw [List.replicate_succ, List.replicate_succ, List.flatten_cons, List.flatten_cons]
    exact h.append (Shs.rep h n)
/-- a tuple so many times -/
def oMulT (d e : D) : Option D := match d with
  | .tup xs => (match e with
    | .int k => (match decide (k = 1) with
      | true => (match xs with | [] => none | x :: r => some (.tup (x :: r)))
      | false => (match decide (2 ≤ k) && decide (k ≤ 1000) && Nat.ble xs.length 1000 with
        | true => (match xs with | [] => none | x :: r => some (.tup (List.replicate k.toNat (x :: r)).flatten))
        | false => none))
    | _ => none)
  | d => oMul d e
theorem u_mulT : U2 G .sh oMulT (fun x y H Q => rI CMul (fun i j => .int (i * j)) x y H Q ∨ ((∃ l xs, x = .ref l ∧ y = .int 1 ∧ SqT G.K H l xs ∧ xs ≠ [] ∧ Q (.ref l) H) ∨ rRepT G.K x y H Q)) := by
  intro st σ H O v w d e d' Q S hv hw ho q
  cases d with
  | tup xs =>
    cases e with
    | int k =>
      rw [hw.int]
      obtain ⟨a, vs, rfl, h1, h2⟩ := hv.tup
      unfold oMulT at ho
      dsimp only at ho
      cases xs with
      | nil => split at ho <;> first | cases ho | (split at ho <;> cases ho)
      | cons x r =>
        have hne : vs ≠ [] := fun z => by rw [z] at h2; cases h2
        split at ho
        · rename_i e1
          cases ho
          have e1 := of_decide_eq_true e1
          subst e1
          exact .inr (.inl ⟨a, vs, rfl, rfl, h1, hne, q _ H O Stp.refl S (.inl (.tup h1 h2))⟩)
        · split at ho
          · rename_i e2
            cases ho
            simp only [Bool.and_eq_true, decide_eq_true_eq] at e2
            have e3 := Nat.le_of_ble_eq_true e2.2
            refine .inr (.inr ⟨a, k, vs, rfl, rfl, h1, hne, e2.1.1, e2.1.2, by rw [h2.length]; exact e3, fun p hp => ?_⟩)
            obtain ⟨s1, S1, r1⟩ := end_tup S hp (Shs.rep h2 k.toNat)
            exact q _ _ O s1 S1 r1
          · cases ho
    | _ => cases ho
  | int i => exact .inl (u_mul S hv hw ho q)
  | _ => cases e <;> cases ho
/-- a new list so many times -/
def oRepL (d e : D) : Option D := match d with
  | .lst xs => (match e with
    | .int k => (match decide (k ≤ 16000000) && decide (-16000000 ≤ k) && lenOk (xs.length * k.toNat) with | true => some (.lst (List.replicate k.toNat xs).flatten) | false => none)
    | _ => none)
  | _ => none
theorem w_rep {m n : ME} (σ : L2.St) (H : Hp) (Q : VK) (q : T G .ow true (m2 oRepL m n) σ H Q) : tOp rRep (T G .ow true m) (T G .br true n) σ H Q := by
  obtain ⟨st, O, S, q⟩ := q
  refine ⟨st, O, S, R.all_mono (fun p q v H1 O1 s1 S1 r1 => ?_) (R.all_bind q)⟩
  obtain ⟨A, rfl, ⟨ho, ds, vs, ed, eA, hs⟩, fr⟩ := r1
  refine ⟨p.2, O1, S1, R.all_mono (fun p2 q w H2 O2 s2 S2 r2 => ?_) (R.all_bind q)⟩
  have nh : G.hd ≠ some A := fun z => S1.bo A (S1.hn A z).1.1 ho
  have eA2 := s2.pr A _ eA (.inl rfl) nh
  have hs2 := S1.cars0 s2 hs
  rw [ed] at q
  obtain ⟨e, st2⟩ := p2
  cases e with
  | int k =>
    have ew := r2.int
    subst ew
    cases c : (decide (k ≤ 16000000) && decide (-16000000 ≤ k) && lenOk (ds.length * k.toNat)) with
    | false => simp only [oRepL, c] at q; exact q.elim
    | true =>
      simp only [oRepL, c] at q
      simp only [Bool.and_eq_true, decide_eq_true_eq] at c
      have c3 := lenOk_le c.2
      refine ⟨A, k, vs, rfl, rfl, eA2, by omega, by omega, by rw [hs2.length]; exact Nat.le_of_lt c3, fun l hl => ?_⟩
      obtain ⟨s3, S3, r3⟩ := end_lst S2 hl (Shs.rep hs2 k.toNat)
      exact q _ _ _ ((s1.trans s2 S2.hO).trans s3 S3.hO) S3 r3
  | _ => exact q.elim
/-- w[k] op= e, whole numbers, w owned -/
def sAugS (f : Int → Int → Int) (i : Nat) (mk mv : ME) : MS := fun st => match getS st i with
  | none => .bad
  | some _ => (mk st).bind fun y => match getS y.2 i with
    | some (.lst ds) => (match y.1 with
      | .int k => (match atI ds k with
        | some (.int x) => (mv y.2).bind fun z => match getS z.2 i with
          | some (.lst es) => (match z.1 with
            | .int w => (match ixN es.length k with
              | some j => .ok (.nx (z.2.set i (some (.lst (es.set j (.int (f x w)))))))
              | none => .bad)
            | _ => .bad)
          | _ => .bad
        | _ => .bad)
      | _ => .bad)
    | _ => .bad
theorem w_augS {f : Int → Int → Int} {i : Nat} {mk mv : ME} (hk : G.kd i = true) (Dn : Ends) (σ : L2.St) (H : Hp) (q : TSm G ro (sAugS f i mk mv) Dn σ H) :
    tAugS (tVar i) (T G .sh true mk) (T G .sh true mv) (fun o i H Q => rIxL G.K o i H Q) (ipI f) rSetL Dn σ H := by
  obtain ⟨st, O, S, q⟩ := q
  unfold sAugS at q
  cases e0 : getS st i with
  | none => rw [e0] at q; exact q.elim
  | some d0 =>
    rw [e0] at q
    obtain ⟨a, ds0, vs0, rfl, ea, ho, hA, h0⟩ := S.slot hk e0
    refine ⟨_, ea, st, O, S, R.all_mono (fun y q w H2 O2 s2 S2 r2 => ?_) (R.all_bind q)⟩
    obtain ⟨y1, y2⟩ := y
    cases e1 : getS y2 i with
    | none => simp only [e1] at q; exact q.elim
    | some d1 =>
      simp only [e1] at q
      obtain ⟨b, ds, vs, rfl, eb, ho1, hB, h1⟩ := S2.slot hk e1
      rw [ea] at eb
      cases eb
      cases y1 with
      | int k =>
        simp only at q
        cases ex : atI ds k with
        | none => rw [ex] at q; exact q.elim
        | some d2 =>
          rw [ex] at q
          cases d2 with
          | int x =>
            have ew : w = .int k := VR.int (st := y2) (σ := σ) (O := O2) (.inl r2)
            subst ew
            have ev : atI vs k = some (.int x) := by
              unfold atI at ex ⊢
              rw [h1.length]
              cases ej : ixN ds.length k with
              | none => rw [ej] at ex; cases ex
              | some j =>
                rw [ej] at ex
                obtain ⟨v, ev, rv⟩ := h1.get ex
                cases rv
                exact ev
            refine ⟨a, vs, k, .int x, rfl, rfl, .inl (.inl hB), ev, y2, O2, S2, R.all_mono (fun z q w H3 O3 s3 S3 r3 => ?_) (R.all_bind q)⟩
            obtain ⟨z1, z2⟩ := z
            cases e2 : getS z2 i with
            | none => simp only [e2] at q; exact q.elim
            | some d3 =>
              simp only [e2] at q
              obtain ⟨c, es, us, rfl, ec, ho3, hC, h3⟩ := S3.slot hk e2
              rw [ea] at ec
              cases ec
              cases z1 with
              | int u =>
                simp only at q
                cases ej : ixN es.length k with
                | none => rw [ej] at q; exact q.elim
                | some j =>
                  rw [ej] at q
                  have ew : w = .int u := VR.int (st := z2) (σ := σ) (O := O3) (.inl r3)
                  subst ew
                  obtain ⟨S4, s4⟩ := S3.mut hk (getS_some e2) ea ho3 ⟨_, hC⟩ (h3.set j (.int (f x u)))
                  refine ⟨x, u, rfl, rfl, a, us, k, j, rfl, rfl, hC, by rw [h3.length]; exact ej, ?_⟩
                  exact q _ _ O3 ((s2.weak.trans s3.weak S3.hO).trans s4 S4.hO) S4
              | _ => exact q.elim
          | _ => exact q.elim
      | _ => exact q.elim
end
end EV
/-! several names at once, some of them new lists -/
namespace EV
open PySem PySem.Spec PyProof.Rows L2 RZ
section
variable {X : Cx} {G : Cn} {ro pu : Bool}
/-- a value and a new list -/
def sParSO (i j : Nat) (a b : ME) : MS := fun st => (a st).bind fun x => (b x.2).bind fun y => .ok (.nx ((y.2.set i (some x.1)).set j (some y.1)))
theorem w_parSO {i j : Nat} {a b : ME} (hi : G.kd i = false) (hj : G.kd j = true) (hij : i ≠ j) (Dn : Ends) (σ : L2.St) (H : Hp) (q : TSm G ro (sParSO i j a b) Dn σ H) : tPar i j (L2.tCons (T G .sh pu a) (L2.tCons (T G .ow true b) L2.tNil)) Dn σ H := by
  obtain ⟨st, O, S, q⟩ := q
  refine ⟨st, O, S, R.all_mono (fun x q v H1 O1 s1 S1 r1 => ?_) (R.all_bind q)⟩
  refine ⟨x.2, O1, S1, R.all_mono (fun y q w H2 O2 s2 S2 r2 => ?_) (R.all_bind q)⟩
  obtain ⟨A, rfl, ow, fr⟩ := r2
  have r1' : ShR G.K G.hd H2 (G.F O2) v x.1 := S1.car s2 r1
  have S3 := S2.putS hi r1'
  have S4 := S3.putO (i := j) (a := A) (d := y.1) hj ow fun k d' hk hkk e z => by
    have ki : k ≠ i := fun z => by rw [z, hi] at hkk; cases hkk
    rw [List.getElem?_set_ne (Ne.symm ki)] at z e
    exact fr k d' hkk e z
  have sp : Stp pu G.hd O H O2 H2 := s1.trans ⟨fun c o e _ n => s2.pr c o e (.inl rfl) n, s2.nw⟩ S2.hO
  exact ⟨_, _, rfl, q _ H2 _ sp.weak S4⟩
/-- two new lists and a value -/
def sParOOS (i j k : Nat) (a b c : ME) : MS := fun st => (a st).bind fun x => (b x.2).bind fun y => (c y.2).bind fun z => .ok (.nx (((z.2.set i (some x.1)).set j (some y.1)).set k (some z.1)))
theorem w_parOOS {i j k : Nat} {a b c : ME} (hi : G.kd i = true) (hj : G.kd j = true) (hk0 : G.kd k = false) (hij : i ≠ j) (Dn : Ends) (σ : L2.St) (H : Hp) (q : TSm G ro (sParOOS i j k a b c) Dn σ H) :
    tPar3 i j k (L2.tCons (T G .ow pu a) (L2.tCons (fun σ H Q => ∃ B, T (G.at B) .ow true b σ H Q) (L2.tCons (fun σ H Q => ∃ B, T (G.at B) .sh true c σ H Q) L2.tNil))) Dn σ H := by
  obtain ⟨st, O, S, q⟩ := q
  refine ⟨st, O, S, R.all_mono (fun x q v H1 O1 s1 S1 r1 => ?_) (R.all_bind q)⟩
  obtain ⟨A, rfl, ⟨ho, ds, vs, ed, eA, hs⟩, fr⟩ := r1
  have nB : ¬ G.B A := fun z => S1.bo A z ho
  have nh : G.hd ≠ some A := fun z => nB (S1.hn A z).1.1
  have S1' : SR (G.at fun c => G.B c ∨ c = A) x.2 σ H1 (fun c => O1 c ∧ c ≠ A) := SR.toB (G := G) (B := G.B) S1 ho fr
  refine ⟨fun c => G.B c ∨ c = A, x.2, _, S1', R.all_mono (fun y q w H2 O2 s2 S2 r2 => ?_) (R.all_bind q)⟩
  obtain ⟨A2, rfl, ⟨ho2, ds2, vs2, ed2, eA2, hs2⟩, fr2⟩ := r2
  have nA : ¬ O2 A := S2.bo A (.inr rfl)
  have neA : A2 ≠ A := fun z => nA (z ▸ ho2)
  have kA : H2 A = some (.lst vs) := s2.pr A _ eA (.inl rfl) nh
  have hs' : Shs G.K H1 ((G.at fun c => G.B c ∨ c = A).F fun c => O1 c ∧ c ≠ A) vs ds := hs.mono fun c z => by
    rcases z with (z | z) | z
    · exact .inl z
    · exact .inr (z ▸ ho)
    · exact .inr z.1
  have hs3 : Shs G.K H2 ((G.at fun c => G.B c ∨ c = A).F O2) vs ds := S1'.cars0 s2 hs'
  have nB2 : ¬ (G.B A2 ∨ A2 = A) := fun z => z.elim (fun z => S2.bo A2 (.inl z) ho2) neA
  have nh2 : G.hd ≠ some A2 := fun z => nB2 (.inl (S1.hn A2 z).1.1)
  have S2' : SR (G.at fun c => (G.B c ∨ c = A) ∨ c = A2) y.2 σ H2 (fun c => O2 c ∧ c ≠ A2) := SR.toB (G := G) (B := fun c => G.B c ∨ c = A) S2 ho2 fr2
  refine ⟨fun c => (G.B c ∨ c = A) ∨ c = A2, y.2, _, S2', R.all_mono (fun z q u H3 O3 s3 S3 r3 => ?_) (R.all_bind q)⟩
  have mv : ∀ c, (G.at fun c => (G.B c ∨ c = A) ∨ c = A2).F (fun c => O2 c ∧ c ≠ A2) c → (G.at fun c => G.B c ∨ c = A).F O2 c := fun c z => by
    rcases z with (z | z) | z
    · exact .inl z
    · exact .inr (z ▸ ho2)
    · exact .inr z.1
  have h3A : H3 A = some (.lst vs) := s3.pr A _ kA (.inl rfl) nh
  have h3A2 : H3 A2 = some (.lst vs2) := s3.pr A2 _ eA2 (.inl rfl) nh2
  have t1 : Shs G.K H3 ((G.at fun c => (G.B c ∨ c = A) ∨ c = A2).F O3) vs ds := S2'.cars0 s3 (hs3.mono mv)
  have t2 : Shs G.K H3 ((G.at fun c => (G.B c ∨ c = A) ∨ c = A2).F O3) vs2 ds2 := S2'.cars0 s3 (hs2.mono mv)
  have nA3 : ¬ O3 A := S3.bo A (.inl (.inr rfl))
  have nA32 : ¬ O3 A2 := S3.bo A2 (.inr rfl)
  have hbh : ∀ c, G.hd = some c → G.B c ∧ G.B G.hc := fun c ec => ⟨(S.hn c ec).1.1, (S.hn c ec).1.2.1⟩
  have S4 : SR (G.at fun c => G.B c ∨ c = A) z.2 σ H3 (fun c => O3 c ∨ c = A2) := SR.unB (G := G) (B := fun c => G.B c ∨ c = A) S3 nB2 fun c ec => ⟨.inl (hbh c ec).1, .inl (hbh c ec).2⟩
  have S5 : SR G z.2 σ H3 (fun c => (O3 c ∨ c = A2) ∨ c = A) := SR.unB (G := G) (B := G.B) S4 nB hbh
  have sp : Stp pu G.hd O H (fun c => (O3 c ∨ c = A2) ∨ c = A) H3 := by
    have n3 : ∀ c, H2 c = none → H1 c = none := fun c e => by
      cases e1 : H1 c with
      | none => rfl
      | some o =>
        by_cases hc : G.hd = some c
        · obtain ⟨_, _, _, _, _, _, y, _⟩ := S2.hn c hc
          rw [y] at e; cases e
        · rw [s2.pr c o e1 (.inl rfl) hc] at e; cases e
    have s1' : Stp pu G.hd O1 H1 (fun c => (O3 c ∨ c = A2) ∨ c = A) H3 := by
      refine ⟨fun c o e _ n => s3.pr c o (s2.pr c o e (.inl rfl) n) (.inl rfl) n, fun c z => ?_⟩
      rcases z with (z | z) | z
      · rcases s3.nw c z with z | z
        · exact (s2.nw c z.1).imp (fun z => z.1) id
        · exact .inr (n3 c z)
      · rcases s2.nw c (z ▸ ho2) with y | y
        · exact .inl y.1
        · exact .inr y
      · exact .inl (z ▸ ho)
    exact s1.trans s1' S5.hO
  have lv : ∀ (k : Nat) (d' : D), G.kd k = true → z.2[k]? = some (some d') → ∃ c, σ[k]? = some (some (.ref c)) ∧ O3 c := fun k d' hk e => by
    obtain ⟨v, e1, r⟩ := S3.val k d' e
    have hk' : (G.at fun c => (G.B c ∨ c = A) ∨ c = A2).kd k = true := hk
    rw [hk'] at r
    obtain ⟨c, rfl, oc, _⟩ := r
    exact ⟨c, e1, oc⟩
  have fF : ∀ c, G.F (fun c => (O3 c ∨ c = A2) ∨ c = A) c → (G.at fun c => (G.B c ∨ c = A) ∨ c = A2).F O3 c := fun c z => by
    rcases z with z | (z | z) | z
    · exact .inl (.inl (.inl z))
    · exact .inr z
    · exact .inl (.inr z)
    · exact .inl (.inl (.inr z))
  have S6 := S5.putO (i := i) (a := A) (d := x.1) hi ⟨.inr rfl, ds, vs, ed, h3A, t1.mono fF⟩ fun k d' hk hkk e z => by
    obtain ⟨c, e1, oc⟩ := lv k d' hkk e
    rw [e1] at z
    cases z
    exact nA3 oc
  have S7 := S6.putO (i := j) (a := A2) (d := y.1) hj ⟨.inl (.inr rfl), ds2, vs2, ed2, h3A2, t2.mono fF⟩ fun k d' hk hkk e z => by
    by_cases ki : k = i
    · subst ki
      have hl : k < σ.length := by
        rcases Nat.lt_or_ge k σ.length with h | h
        · exact h
        · rw [List.getElem?_eq_none (by simpa using h)] at z; cases z
      rw [List.getElem?_set_self hl] at z
      cases z
      exact neA rfl
    · rw [List.getElem?_set_ne (Ne.symm ki)] at z e
      obtain ⟨c, e1, oc⟩ := lv k d' hkk e
      rw [e1] at z
      cases z
      exact nA32 oc
  have S8 := S7.putS (i := k) (v := u) (d := z.1) hk0 (ShR.mono fF r3)
  exact ⟨_, _, _, rfl, q _ H3 _ sp.weak S8⟩
end
end EV
/-! sorted(set(..)) of a list of tuples of whole numbers -/
namespace EV
open PySem PySem.Spec PyProof.Rows L2 RZ
def tupi? : List D → Option (List (List Int))
  | [] => some []
  | d :: r => match d with
    | .tup xs => (match ints? xs with | some k => (match tupi? r with | some ks => some (k :: ks) | none => none) | none => none)
    | _ => none
abbrev cd (k : List Int) : Int := TS.code 1000 k
def insC (k : List Int) : List (List Int) → List (List Int)
  | [] => [k]
  | x :: r => match decide (cd k < cd x) with
    | true => k :: x :: r
    | false => match decide (cd k = cd x) with
      | true => x :: r
      | false => x :: insC k r
def dsort : List (List Int) → List (List Int)
  | [] => []
  | k :: r => insC k (dsort r)
theorem cd_inj : ∀ {k l : List Int}, k.length = l.length → TS.Bd 1000 k → TS.Bd 1000 l → cd k = cd l → k = l
  | [], [], _, _, _, _ => rfl
  | a :: r, b :: q, hl, h1, h2, e => by
    have hl' : r.length = q.length := by simpa using hl
    rcases Int.lt_trichotomy a b with h | h | h
    · have := TS.code_lt hl' h1.tail h2.tail h
      unfold cd at e
      omega
    · subst h
      have : cd r = cd q := by
        have e' : a * 1000 ^ r.length + TS.code 1000 r = a * 1000 ^ q.length + TS.code 1000 q := e
        rw [hl'] at e'
        exact Int.add_left_cancel e'
      rw [cd_inj hl' h1.tail h2.tail this]
    · have := TS.code_lt hl'.symm h2.tail h1.tail h
      unfold cd at e
      omega
theorem insC_mem {k : List Int} : ∀ {l : List (List Int)} {x : List Int}, x ∈ insC k l → x = k ∨ x ∈ l
  | [], x, h => by simp [insC] at h; exact .inl h
  | y :: r, x, h => by
    unfold insC at h
    split at h
    · rcases List.mem_cons.mp h with h | h
      · exact .inl h
      · exact .inr h
    · split at h
      · exact .inr h
      · rcases List.mem_cons.mp h with h | h
        · exact .inr (by simp [h])
        · exact (insC_mem h).imp id fun z => by simp [z]
theorem insC_cov {k : List Int} : ∀ {l : List (List Int)}, (∃ x ∈ insC k l, cd x = cd k) ∧ ∀ y ∈ l, ∃ x ∈ insC k l, cd x = cd y
  | [] => ⟨⟨k, by simp [insC], rfl⟩, fun y hy => by simp at hy⟩
  | z :: r => by
    unfold insC
    split
    · exact ⟨⟨k, by simp, rfl⟩, fun y hy => ⟨y, by simp at hy ⊢; exact .inr hy, rfl⟩⟩
    · split
      · rename_i e
        exact ⟨⟨z, by simp, (of_decide_eq_true e).symm⟩, fun y hy => ⟨y, hy, rfl⟩⟩
      · obtain ⟨⟨x, hx, ex⟩, h2⟩ := insC_cov (k := k) (l := r)
        refine ⟨⟨x, by simp [hx], ex⟩, fun y hy => ?_⟩
        rcases List.mem_cons.mp hy with h | h
        · exact ⟨z, by simp, by rw [h]⟩
        · obtain ⟨w, hw, ew⟩ := h2 y h
          exact ⟨w, by simp [hw], ew⟩
theorem insC_sorted {k : List Int} : ∀ {l : List (List Int)}, l.Pairwise (fun a b => cd a < cd b) → (insC k l).Pairwise (fun a b => cd a < cd b)
  | [], _ => by simp [insC]
  | z :: r, h => by
    have hz := List.pairwise_cons.mp h
    unfold insC
    split
    · rename_i e
      have e := of_decide_eq_true e
      refine List.pairwise_cons.mpr ⟨fun y hy => ?_, h⟩
      rcases List.mem_cons.mp hy with q | q
      · rw [q]; exact e
      · exact Int.lt_trans e (hz.1 y q)
    · rename_i e
      have e := of_decide_eq_false e
      split
      · exact h
      · rename_i e2
        have e2 := of_decide_eq_false e2
        refine List.pairwise_cons.mpr ⟨fun y hy => ?_, insC_sorted hz.2⟩
        rcases insC_mem hy with q | q
        · rw [q]; omega
        · exact hz.1 y q
theorem dsort_sorted : ∀ {l : List (List Int)}, (dsort l).Pairwise (fun a b => cd a < cd b)
  | [] => List.Pairwise.nil
  | _ :: _ => insC_sorted dsort_sorted
theorem dsort_mem : ∀ {l : List (List Int)} {x : List Int}, x ∈ dsort l → x ∈ l
  | [], _, h => h
  | k :: r, x, h => by
    rcases insC_mem h with q | q
    · simp [q]
    · simp [dsort_mem q]
theorem dsort_cov : ∀ {l : List (List Int)} {x : List Int}, x ∈ l → ∃ y ∈ dsort l, cd y = cd x
  | k :: r, x, h => by
    obtain ⟨h1, h2⟩ := insC_cov (k := k) (l := dsort r)
    rcases List.mem_cons.mp h with q | q
    · rw [q]; exact h1
    · obtain ⟨y, hy, ey⟩ := dsort_cov q
      obtain ⟨w, hw, ew⟩ := h2 y hy
      exact ⟨w, hw, ew.trans ey⟩
/-- two lists that rise strictly and have the same codes -/
theorem uniq {α : Type} {f : α → Int} : ∀ {l m : List α}, (∀ x ∈ l, ∀ y ∈ m, f x = f y → x = y) → l.Pairwise (fun a b => f a < f b) → m.Pairwise (fun a b => f a < f b) → (∀ x ∈ l, x ∈ m) → (∀ x ∈ m, x ∈ l) → l = m
  | [], [], _, _, _, _, _ => rfl
  | [], y :: _, _, _, _, _, h => absurd (h y (by simp)) (by simp)
  | x :: _, [], _, _, _, h, _ => absurd (h x (by simp)) (by simp)
  | x :: l, y :: m, hi, h1, h2, h3, h4 => by
    have p1 := List.pairwise_cons.mp h1
    have p2 := List.pairwise_cons.mp h2
    have exy : x = y := by
      rcases List.mem_cons.mp (h3 x (by simp)) with e | e
      · exact e
      · rcases List.mem_cons.mp (h4 y (by simp)) with e2 | e2
        · exact e2.symm
        · have a := p2.1 x e
          have b := p1.1 y e2
          omega
    subst exy
    have hl : ∀ z ∈ l, z ∈ m := fun z hz => by
      rcases List.mem_cons.mp (h3 z (by simp [hz])) with e | e
      · subst e; exact absurd (p1.1 z hz) (Int.lt_irrefl _)
      · exact e
    have hm : ∀ z ∈ m, z ∈ l := fun z hz => by
      rcases List.mem_cons.mp (h4 z (by simp [hz])) with e | e
      · subst e; exact absurd (p2.1 z hz) (Int.lt_irrefl _)
      · exact e
    rw [uniq (fun a ha b hb => hi a (by simp [ha]) b (by simp [hb])) p1.2 p2.2 hl hm]
def bdB (d : Nat) (k : List Int) : Bool := Nat.beq k.length d && k.all fun x => decide (0 ≤ x) && decide (x < 1000)
theorem bdB_ok {d : Nat} {k : List Int} (h : bdB d k = true) : k.length = d ∧ TS.Bd 1000 k := by
  unfold bdB at h
  rw [Bool.and_eq_true] at h
  refine ⟨Nat.eq_of_beq_eq_true h.1, fun m hm => ?_⟩
  have := List.all_eq_true.mp h.2 m hm
  rw [Bool.and_eq_true, decide_eq_true_eq, decide_eq_true_eq] at this
  exact this
def wid : List (List Int) → Nat
  | [] => 1
  | k :: _ => k.length
def oSSet : D → Option D
  | .lst xs => (match tupi? xs with
    | some ks => (match Nat.blt ks.length 64 && Nat.ble 1 (wid ks) && ks.all (bdB (wid ks)) with | true => some (.lst ((dsort ks).map fun k => .tup (k.map D.int))) | false => none)
    | none => none)
  | _ => none
section
variable {K : PySem.W.Frag} {H : Hp} {F : Addr → Prop}
theorem ints_shs : ∀ k : List Int, Shs K H F (k.map V.int) (k.map D.int)
  | [] => .nil
  | _ :: k => .cons (.int _) (ints_shs k)
theorem tups_of : ∀ {vs : List V} {ds : List D} {ks : List (List Int)}, tupi? ds = some ks → Shs K H F vs ds → ∃ ps : List (Addr × List Int), vs = ps.map (fun p => V.ref p.1) ∧ ks = ps.map (·.2) ∧ ∀ p ∈ ps, SqT K H p.1 (p.2.map V.int)
  | _, [], ks, e, .nil => ⟨[], rfl, (Option.some.inj e).symm, fun p hp => by simp at hp⟩
  | _, d :: ds, ks, e, .cons h hs => by
    unfold tupi? at e
    cases d with
    | tup xs =>
      dsimp only at e
      cases e1 : ints? xs with
      | none => rw [e1] at e; cases e
      | some k =>
        rw [e1] at e
        cases e2 : tupi? ds with
        | none => rw [e2] at e; cases e
        | some ks2 =>
          rw [e2] at e
          cases e
          obtain ⟨ps, rfl, rfl, hp⟩ := tups_of e2 hs
          cases h with
          | @tup a vs _ h1 h2 =>
            rw [ints_of e1 h2] at h1
            exact ⟨(a, k) :: ps, rfl, rfl, fun p hm => by
              rcases List.mem_cons.mp hm with z | z
              · rw [z]; exact h1
              · exact hp p z⟩
    | _ => cases e
theorem shs_tups : ∀ {L : List (Addr × List Int)}, (∀ p ∈ L, SqT K H p.1 (p.2.map V.int)) → Shs K H F (L.map fun p => V.ref p.1) ((L.map (·.2)).map fun k => D.tup (k.map D.int))
  | [], _ => .nil
  | p :: L, h => .cons (.tup (h p (by simp)) (ints_shs _)) (shs_tups fun q hq => h q (by simp [hq]))
end
theorem u_sset {G : Cn} {P : Program} {w : World} : U1 G .ow oSSet (fun x H Q => rSetOfT G.K P w [x] H fun y H' => rSortedT G.K P w [y] H' Q) := by
  intro st1 σ H1 O1 v d0 d Q S1 r1 e q
  cases d0 with
  | lst xs =>
    unfold oSSet at e
    dsimp only at e
    cases e1 : tupi? xs with
    | none => rw [e1] at e; cases e
    | some ks =>
      rw [e1] at e
      dsimp only at e
      cases c : (Nat.blt ks.length 64 && Nat.ble 1 (wid ks) && ks.all (bdB (wid ks))) with
      | false => rw [c] at e; cases e
      | true =>
        rw [c] at e
        cases e
        simp only [Bool.and_eq_true] at c
        obtain ⟨⟨c1, c2⟩, c3⟩ := c
        have c1 : ks.length < 64 := by
          have := Nat.le_of_ble_eq_true c1
          omega
        have c2 := Nat.le_of_ble_eq_true c2
        obtain ⟨a, vs, rfl, hr, hs⟩ := VR.lst (st := st1) (σ := σ) (O := O1) r1
        obtain ⟨ps, rfl, rfl, hp⟩ := tups_of e1 hs
        have bd : ∀ p ∈ ps, p.2.length = wid (ps.map (·.2)) ∧ TS.Bd 1000 p.2 := fun p hm => bdB_ok (List.all_eq_true.mp c3 _ (List.mem_map.mpr ⟨p, hm, rfl⟩))
        refine ⟨a, ps, rfl, .inl hr, hp, by simpa using c1, fun b L hb hsub hcov => ?_⟩
        have hpL : ∀ p ∈ L, SqT G.K (upd H1 b (SetTO P w b L)) p.1 (p.2.map V.int) := fun p hm => sqt_upd hb (hp p (hsub p hm))
        refine ⟨b, L, wid (ps.map (·.2)), 1000, rfl, upd_same, hpL, c2, fun p hm => bd p (hsub p hm), fun L' l pm nd _ pw hl => ?_⟩
        have inL : ∀ p ∈ L', p ∈ ps := fun p hm => hsub p (pm.mem_iff.mp hm)
        have inj : ∀ x ∈ ps.map (·.2), ∀ y ∈ ps.map (·.2), cd x = cd y → x = y := fun x hx y hy exy => by
          obtain ⟨p, hp1, rfl⟩ := List.mem_map.mp hx
          obtain ⟨p', hp2, rfl⟩ := List.mem_map.mp hy
          exact cd_inj ((bd p hp1).1.trans (bd p' hp2).1.symm) (bd p hp1).2 (bd p' hp2).2 exy
        have mem' : ∀ x ∈ L'.map (·.2), x ∈ ps.map (·.2) := fun x hx => by
          obtain ⟨p, hp1, rfl⟩ := List.mem_map.mp hx
          exact List.mem_map.mpr ⟨p, inL p hp1, rfl⟩
        have st' : (L'.map (·.2)).Pairwise (fun a b => cd a < cd b) := by
          have h1 : (L'.map (·.2)).Pairwise (fun a b => cd a ≤ cd b) := List.pairwise_map.mpr pw
          have h2 := h1.and nd
          refine List.Pairwise.imp_of_mem (fun {x y} hx hy h => ?_) h2
          rcases Int.lt_or_eq_of_le h.1 with z | z
          · exact z
          · exact absurd (inj x (mem' x hx) y (mem' y hy) z) h.2
        have eq : L'.map (·.2) = dsort (ps.map (·.2)) := by
          refine uniq (f := cd) (fun x hx y hy => inj x (mem' x hx) y (dsort_mem hy)) st' dsort_sorted (fun x hx => ?_) fun x hx => ?_
          · obtain ⟨y, hy, ey⟩ := dsort_cov (mem' x hx)
            rw [← inj y (dsort_mem hy) x (mem' x hx) ey]
            exact hy
          · obtain ⟨p, hp1, rfl⟩ := List.mem_map.mp (dsort_mem hx)
            have := hcov p hp1
            obtain ⟨p', hp2, e2⟩ := List.mem_map.mp this
            rw [← e2]
            exact List.mem_map.mpr ⟨p', pm.mem_iff.mpr hp2, rfl⟩
        have S2 : SR G st1 σ (upd H1 b (SetTO P w b L)) O1 := S1.new hb
        have h3 : Shs G.K (upd H1 b (SetTO P w b L)) (G.F O1) (L'.map fun p => V.ref p.1) ((dsort (ps.map (·.2))).map fun k => D.tup (k.map D.int)) := by
          rw [← eq]
          exact shs_tups fun p hm => hpL p (pm.mem_iff.mp hm)
        obtain ⟨s3, S3, r3⟩ := end_lst S2 hl h3
        exact q _ _ _ ((Stp.new hb).trans s3 S3.hO) S3 r3
  | _ => cases e
theorem w_sset {G : Cn} {P : Program} {w : World} {m : ME} (σ : L2.St) (H : Hp) (Q : VK) (q : T G .ow true (m1 oSSet m) σ H Q) : tCB (rSortedT G.K P w) (L2.tCons (tCB (rSetOfT G.K P w) (L2.tCons (T G .br true m) L2.tNil)) L2.tNil) σ H Q := w_1 u_sset σ H Q q
end EV
/-! set(..) of a list of whole numbers -/
namespace L2
open PySem PySem.Spec PyProof.Rows
/-- an empty set -/
abbrev eSet (w : World) : Obj := { cls := .type "set", dict := none, data := .set #[] 0 (.fresh 0 0 (!w.params.followText "set-order")) }
section
variable {P : Program} {w : World} {A : Around} {E : Value → Shared → Prop} {s : Shared}
/-- what the making leaves -/
def MadeSet (w : World) (s : Shared) (is : List Int) (t : Shared) : Prop := ∃ g k c, t = { s with heap := g, toks := k } ∧ SetR w g s.heap.objs.size (fun j => decide (j ∈ is)) c ∧ c ≤ is.length ∧ ∀ b o, s.heap.get? b = some o → g.get? b = some o
set_option maxHeartbeats 3200000 in
theorem setOfInts {l : Addr} {zs : Array Value} (is : List Int) {Q : Value → Shared → Prop} (hA : A.handled = none) (hL : s.heap.IsList l zs) (hI : IntsAre zs.toList is) (hB : is.length + 1 < scanBound)
    (h : ∀ t, MadeSet w s is t → Q (.ref s.heap.objs.size) t) : wpAny (model P w) A (call (.type "set") [.ref l]) Q E s := by
  have hZ : zs.size = is.length := by rw [← IntsAre.length hI, Array.length_toList]
  obtain ⟨c, tl, hM⟩ := F.called_set.mro; have hK := F.called_set.made; have hU := F.called_set.sub
  refine wpAny_call (codeAny_of_tree ?_); show wpAny _ _ (callAny (.type "set") _) _ _ _
  refine wpAny_pure ⟨Code.quiet_builtin _ (by decide +kernel), codeAny_builtin F.entry_type_call ?_⟩; rw [Around.under_plain (weight_type_call_type "set" [.ref l] []) rfl]
  have u1 := F.called_set.notType; have u2 := F.called_set.canCreate; have u3 := F.typeCall_set_1 (.ref l)
  repeat (any_goals (first | assumption | wp_step))
  refine codeAny_mono (code_set_led1 (.ref l) (E := E) (Q₁ := fun o t => o = .ref s.heap.objs.size ∧ t = { s with heap := s.heap.push (eSet w) }) ⟨rfl, rfl⟩) fun r t hr => ?_
  cases r with
  | error e => exact hr
  | ok fl =>
    cases fl with
    | ret obj =>
      obtain ⟨rfl, rfl⟩ := hr
      have gS : (s.heap.push (eSet w)).get? s.heap.objs.size = some (eSet w) := Heap.get?_push_size _ rfl
      have tS : Shared.TypeIs { s with heap := s.heap.push (eSet w) } (.ref s.heap.objs.size) "set" := ⟨_, gS, rfl⟩
      have i1 := F.called_set.init.lookup; have i2 := F.called_set.init.bind (.ref s.heap.objs.size)
      repeat (any_goals (first | assumption | wp_step))
      refine codeAny_mono (codeAny_call_builtin (R := wants (fun r t => r = .none ∧ MadeSet w s is t) E) F.called_set.init.plain F.entry_set_init (check_set_init_1 tS ?_)) fun r t hr => ?_
      · obtain ⟨⟨oc, od, odt, osl⟩, hO, hC, nl, hD⟩ := hL
        simp only at hC hD; subst hC; subst hD
        have gL : (s.heap.push (eSet w)).get? l = some { cls := .type "list", dict := od, data := .seq zs nl, slots := osl } := Heap.get?_push_of_some _ hO
        have j1 := F.sub_list_set; have j2 := F.sub_list_frozenset; have j3 : (Value.type "list" == Value.type "dict") = false := by decide
        have lL : (s.heap.push (eSet w)).IsList l zs := ⟨_, gL, rfl, nl, rfl⟩
        unfold Builtin.«set.__init__» noKeywords Builtin.Frozenset.updateFrom; generalize hP : pyIter = PI
        wp_walk; subst hP
        refine wpAny_pyIter_list lL (wpAny_bind (wpAny_runValue ?_))
        have lt : l < s.heap.objs.size := Heap.lt_size hO
        have sz : (s.heap.push (eSet w)).objs.size = s.heap.objs.size + 1 := Heap.size_push ..
        have n1 : l ≠ (s.heap.push (eSet w)).objs.size := by rw [sz]; exact Nat.ne_of_lt (Nat.lt_succ_of_lt lt)
        have n2 : s.heap.objs.size ∉ [(s.heap.push (eSet w)).objs.size, l] := by
          rw [sz]; simp only [List.mem_cons, List.not_mem_nil, or_false, not_or]; exact ⟨Nat.ne_of_lt (Nat.lt_succ_self _), Nat.ne_of_gt lt⟩
        have val : ∀ (i : Nat) (v : Value), zs[i]? = some v → ∃ k t, is[i]? = some k ∧ v = .int k t := fun i v hv => by
          have hi : i < is.length := by rw [← hZ]; exact (Array.getElem?_eq_some_iff.mp hv).1
          obtain ⟨t, e⟩ := PyProof.Rows.IntsAre.int_at hI i v (by rw [Array.getElem?_toList]; exact hv)
          exact ⟨is[i], t, List.getElem?_eq_getElem hi, by rw [e, List.getD_eq_getElem?_getD, List.getElem?_eq_getElem hi]; rfl⟩
        refine set_update_ints ((Walks.list (by simp [hA]) _ l n1 zs).toS) s.heap.objs.size n2 is hZ hB val (zs.size - 0) 0 _ (by omega) (Nat.zero_le _) ⟨⟨_, Heap.get?_push_size _ rfl, rfl, rfl⟩, (lL.push _)⟩ ?f1 ?f2
        case f1 => exact ⟨0, Nat.le_refl 0, setR_new_at (Heap.get?_push_of_some _ gS)⟩
        case f2 =>
          intro t c' mv le R
          obtain ⟨g, gs, dr, tk, os⟩ := t
          have e1 : gs = s.gens := mv.gens; have e2 : dr = s.drawn := mv.drawn; have e3 : os = s.os := mv.os
          subst e1; subst e2; subst e3
          show wpAny _ _ _ _ _ _
          refine wpAny_pure ?_; show wpAny _ _ (ret Value.none) _ _ _
          rw [hZ] at le
          refine wpAny_pure ⟨rfl, g, tk, c', rfl, R, le, fun b o e => ?_⟩
          have lb := Heap.lt_size e
          exact mv.heap b o (by rw [sz]; simp only [List.mem_cons, List.not_mem_nil, or_false, not_or]; exact ⟨Nat.ne_of_lt lb, Nat.ne_of_lt (Nat.lt_succ_of_lt lb)⟩) (Heap.get?_push_of_some _ (Heap.get?_push_of_some _ e))
      · cases r with
        | error e => exact hr
        | ok f2 =>
          cases f2 with
          | ret r =>
            obtain ⟨rfl, m⟩ := hr
            repeat (any_goals (first | assumption | wp_step))
            exact h _ m
          | _ => exact hr.elim
    | _ => exact hr.elim
end
end L2
namespace EV
open PySem PySem.Spec PyProof.Rows L2 RZ
def rSetI (K : PySem.W.Frag) (w : World) : List V → Hp → VK → Prop := fun xs H Q => ∃ (l : Addr) (is : List Int), xs = [V.ref l] ∧ (SqL K H l (is.map V.int) ∨ SqT K H l (is.map V.int)) ∧ is.length < 64 ∧ ∀ a c, H a = none → c ≤ is.length → Q (.ref a) (upd H a (SetO w a (fun j => decide (j ∈ is)) c))
section
variable {X : Cx} {T : Value} {r r' : List V → Hp → VK → Prop}
theorem cr_or {u : Value} (h : CallR X u r) (h' : CallR X u r') : CallR X u (fun xs H Q => r xs H Q ∨ r' xs H Q) := fun pins s σ H xs us Q I rv q => q.elim (h pins s σ H xs us Q I rv) (h' pins s σ H xs us Q I rv)
theorem cr_setI (hc : X.calm = true) : CallR X (.type "set") (rSetI X.K X.w) := by
  intro pins s σ H xs us Q I rv h
  obtain ⟨l, is, rfl, hl, hlen, q⟩ := h
  rw [Vals.ref1 rv]
  rcases hl with hl | hl
  · obtain ⟨its, iv, pl, hz⟩ := I.list hl
    refine L2.setOfInts is (I.ok.hd hc) pl.isList (by simpa using intsAre_vals iv) (by unfold scanBound; omega) fun t m => ?_
    obtain ⟨g, k, c, rfl, R, le, kp⟩ := m
    exact ⟨.ref s.heap.objs.size, _, I.laid (t' := k) kp (Nat.le_refl _) (setO_new R), rfl, q _ c (I.hok.fresh (Nat.le_refl _)) le⟩
  · obtain ⟨its, iv, pl, hz⟩ := I.tuple hl
    refine L2.call_set_tupI is (I.ok.hd hc) pl (by simpa using intsAre_vals iv) (by unfold scanBound; omega) fun g k c R le kp => ?_
    exact ⟨.ref s.heap.objs.size, _, I.laid (t' := k) kp (Nat.le_refl _) (setO_new R), rfl, q _ c (I.hok.fresh (Nat.le_refl _)) le⟩
end
def insI (k : Int) : List Int → List Int
  | [] => [k]
  | x :: r => match decide (k < x) with
    | true => k :: x :: r
    | false => match decide (k = x) with
      | true => x :: r
      | false => x :: insI k r
def isort : List Int → List Int
  | [] => []
  | k :: r => insI k (isort r)
theorem insI_mem {k : Int} : ∀ {l : List Int} {x : Int}, x ∈ insI k l ↔ x = k ∨ x ∈ l
  | [], x => by simp [insI]
  | y :: r, x => by
    unfold insI
    split
    · simp
    · split
      · rename_i e
        have e := of_decide_eq_true e
        subst e
        simp
      · rw [List.mem_cons, insI_mem (l := r), List.mem_cons]
        constructor
        · rintro (h | h | h) <;> simp [h]
        · rintro (h | h | h) <;> simp [h]
theorem insI_sorted {k : Int} : ∀ {l : List Int}, l.Pairwise (· < ·) → (insI k l).Pairwise (· < ·)
  | [], _ => by simp [insI]
  | z :: r, h => by
    have hz := List.pairwise_cons.mp h
    unfold insI
    split
    · rename_i e
      have e := of_decide_eq_true e
      refine List.pairwise_cons.mpr ⟨fun y hy => ?_, h⟩
      rcases List.mem_cons.mp hy with q | q
      · rw [q]; exact e
      · exact Int.lt_trans e (hz.1 y q)
    · rename_i e
      have e := of_decide_eq_false e
      split
      · exact h
      · rename_i e2
        have e2 := of_decide_eq_false e2
        refine List.pairwise_cons.mpr ⟨fun y hy => ?_, insI_sorted hz.2⟩
        rcases insI_mem.mp hy with q | q
        · rw [q]; omega
        · exact hz.1 y q
theorem isort_ok : ∀ {l : List Int}, (isort l).Pairwise (· < ·) ∧ ∀ x, x ∈ isort l ↔ x ∈ l
  | [] => ⟨List.Pairwise.nil, fun x => Iff.rfl⟩
  | k :: r => ⟨insI_sorted isort_ok.1, fun x => by
    show x ∈ insI k (isort r) ↔ _
    rw [insI_mem, isort_ok.2 x, List.mem_cons]⟩
/-- whole numbers, or tuples of them -/
def oSSet2 (d : D) : Option D := match d with
  | .lst xs => (match ints? xs with
    | some is => (match Nat.blt is.length 64 with | true => some (.lst ((isort is).map D.int)) | false => none)
    | none => oSSet (.lst xs))
  | .tup xs => (match ints? xs with
    | some is => (match Nat.blt is.length 64 with | true => some (.lst ((isort is).map D.int)) | false => none)
    | none => none)
  | _ => none
theorem u_sset2 {G : Cn} {P : Program} {w : World} : U1 G .ow oSSet2 (fun x H Q => (fun vs H Q => rSetOfT G.K P w vs H Q ∨ rSetI G.K w vs H Q) [x] H fun y H' => rSortedT G.K P w [y] H' Q ∨ rSortedSet w [y] H' Q) := by
  intro st1 σ H1 O1 v d0 d Q S1 r1 e q
  cases d0 with
  | lst xs =>
    cases ei : ints? xs with
    | some is =>
      simp only [oSSet2, ei] at e
      cases c : Nat.blt is.length 64 with
      | false => simp only [c] at e; cases e
      | true =>
        simp only [c] at e
        cases e
        have c1 : is.length < 64 := by
          have := Nat.le_of_ble_eq_true c
          omega
        obtain ⟨a, vs, rfl, hr, hs⟩ := r1.lst
        rw [ints_of ei hs] at hr
        refine .inr ⟨a, is, rfl, .inl (.inl hr), c1, fun b n hb hn => .inr ⟨b, _, n, rfl, upd_same, by omega, fun ns l pw mem _ hl => ?_⟩⟩
        have eq : ns = isort is := uniq (f := id) (fun x _ y _ e => e) pw isort_ok.1 (fun x hx => (isort_ok.2 x).mpr (by simpa using (mem x).mp hx)) fun x hx => (mem x).mpr (by simpa using (isort_ok.2 x).mp hx)
        have S2 : SR G st1 σ (upd H1 b (SetO w b (fun j => decide (j ∈ is)) n)) O1 := S1.new hb
        rw [eq]
        obtain ⟨s3, S3, r3⟩ := end_lst S2 hl (ints_shs (isort is))
        exact q _ _ _ ((Stp.new hb).trans s3 S3.hO) S3 r3
    | none =>
      have e' : oSSet (.lst xs) = some d := by
        simp only [oSSet2, ei] at e
        exact e
      have z := u_sset (P := P) (w := w) S1 r1 e' q
      obtain ⟨l, ks, h1, h2, h3, h4, h5⟩ := z
      exact .inl ⟨l, ks, h1, h2, h3, h4, fun a L ha hs hc => .inl (h5 a L ha hs hc)⟩
  | tup xs =>
    cases ei : ints? xs with
    | some is =>
      simp only [oSSet2, ei] at e
      cases c : Nat.blt is.length 64 with
      | false => simp only [c] at e; cases e
      | true =>
        simp only [c] at e
        cases e
        have c1 : is.length < 64 := by
          have := Nat.le_of_ble_eq_true c
          omega
        obtain ⟨a, vs, rfl, hr, hs⟩ := r1.tup
        rw [ints_of ei hs] at hr
        refine .inr ⟨a, is, rfl, .inr hr, c1, fun b n hb hn => .inr ⟨b, _, n, rfl, upd_same, by omega, fun ns l pw mem _ hl => ?_⟩⟩
        have eq : ns = isort is := uniq (f := id) (fun x _ y _ e => e) pw isort_ok.1 (fun x hx => (isort_ok.2 x).mpr (by simpa using (mem x).mp hx)) fun x hx => (mem x).mpr (by simpa using (isort_ok.2 x).mp hx)
        have S2 : SR G st1 σ (upd H1 b (SetO w b (fun j => decide (j ∈ is)) n)) O1 := S1.new hb
        rw [eq]
        obtain ⟨s3, S3, r3⟩ := end_lst S2 hl (ints_shs (isort is))
        exact q _ _ _ ((Stp.new hb).trans s3 S3.hO) S3 r3
    | none =>
      simp only [oSSet2, ei] at e
      cases e
  | _ => cases e
end EV
/-! list + list: a new list -/
namespace EV
open PySem PySem.Spec PyProof.Rows L2 RZ
def rCatL : R2 := fun x y H Q => ∃ l b xs zs, x = .ref l ∧ y = .ref b ∧ Rd H l (.lst xs) ∧ Rd H b (.lst zs) ∧ xs.length + zs.length ≤ sizeLine ∧ ∀ p, H p = none → Q (.ref p) (upd H p (.lst (xs ++ zs)))
theorem op_catL {X : Cx} : OpR X (binaryOp .Add) rCatL := by
  intro pins s σ H x y v u Q I rx ry h
  obtain ⟨l, b, xs, zs, rfl, rfl, h1, h2, hz, q⟩ := h
  cases rx
  cases ry
  obtain ⟨z1, its, n, r, e1⟩ := h1.ok I.hok
  obtain ⟨z2, its2, n2, r2, e2⟩ := h2.ok I.hok
  have k1 := r.length
  have k2 := r2.length
  refine PySem.P.add_list e1 e2 ?_ (by rw [List.size_toArray, List.size_toArray]; omega)
  rw [show its.toArray ++ its2.toArray = (its ++ its2).toArray by simp]
  exact ⟨.ref _, _, I.lnew (t' := s.toks) (r.append r2) (by rw [List.length_append]; omega), rfl, q _ I.fresh⟩
def oCatL (d e : D) : Option D := match d with
  | .lst xs => (match e with | .lst ys => (match lenOk (xs.length + ys.length) with | true => some (.lst (xs ++ ys)) | false => none) | _ => none)
  | _ => none
theorem u_catL {G : Cn} : U2 G .ow oCatL rCatL := by
  intro st σ H O v w d e d' Q S hv hw ho q
  cases d with
  | lst xs =>
    cases e with
    | lst ys =>
      simp only [oCatL] at ho
      cases c : lenOk (xs.length + ys.length) with
      | false => rw [c] at ho; cases ho
      | true =>
        rw [c] at ho
        cases ho
        obtain ⟨a, vs, rfl, h1, h2⟩ := hv.lst
        obtain ⟨b, ws, rfl, h3, h4⟩ := hw.lst
        refine ⟨a, b, vs, ws, rfl, rfl, h1, h3, by rw [h2.length, h4.length]; exact Nat.le_of_lt (lenOk_le c), fun p hp => ?_⟩
        obtain ⟨s3, S3, r3⟩ := end_lst S hp (h2.append h4)
        exact q _ _ _ s3 S3 r3
    | _ => cases ho
  | _ => cases e <;> cases ho
end EV
/-! len(set(..)) of a list of whole numbers, of tuples of whole numbers; a dict display of one pair, never looked into; list + list, shared -/
namespace L2
open PySem PySem.Spec PyProof.Rows
def rLenS (P : Program) (w : World) : List V → Hp → VK → Prop := fun xs H Q => ∃ (a : Addr), xs = [V.ref a] ∧ ((∃ (S : Int → Bool) (n : Nat), H a = some (SetO w a S n) ∧ n < 64 ∧ ∀ ks : List Int, ks.Nodup → (∀ k : Int, k ∈ ks ↔ S k = true) → Q (.int ks.length) H) ∨
  (∃ (L : List (Addr × List Int)), H a = some (SetTO P w a L) ∧ ((L.map (·.2)).Nodup → L.length < 64 → Q (.int L.length) H)))
section
variable {X : Cx}
theorem cr_lenS (hc : X.calm = true) : CallR X (.builtin "len") (rLenS X.prog X.w) := by
  intro pins s σ H xs us Q I r h
  obtain ⟨a, rfl, ⟨S, n, ha, hn, q⟩ | ⟨L, ha, q⟩⟩ := h
  · rw [Vals.ref1 r]
    obtain ⟨o, es, ep, t, ho, hex, hd, _, nd, mem, _, hf, hn2, _⟩ := setO_get I ha
    refine call_len_set ho hex hd hf (by omega) ⟨.int es.size, H, I.tok _, ⟨_, rfl⟩, ?_⟩
    have z := q _ nd fun k => (mem k).symm
    rw [List.length_map, Array.length_toList] at z
    exact z
  · rw [Vals.ref1 r]
    have R : SetT0 X.prog X.w s.heap a L := (I.hok a _ ha).1
    obtain ⟨es, ep, t, ⟨o, ho, hex, hd⟩, h1, h2, h3, h4, h5, h6, h7⟩ := R.ex
    have sz : es.size = L.length := by
      have h := congrArg List.length h1
      unfold rowsOf at h
      rw [Array.length_toList, List.length_map] at h
      exact h
    have hf : t.fits es.size = true := by
      have g1 := h2.sz
      rw [List.length_map] at g1
      unfold SetTable.fits SetTable.fill
      rw [h2.dm, Bool.and_eq_true, beq_iff_eq, decide_eq_true_eq]
      show t.place.size = es.size ∧ t.place.size + 0 ≤ t.mask
      omega
    refine call_len_set ho hex hd hf (by omega) ⟨.int es.size, H, I.tok _, ⟨_, rfl⟩, ?_⟩
    rw [sz]
    exact q h3 h7
end
end L2
namespace EV
open PySem PySem.Spec PyProof.Rows L2 RZ
def dd {α : Type} [DecidableEq α] : List α → List α
  | [] => []
  | x :: r => if x ∈ r then dd r else x :: dd r
theorem dd_mem {α : Type} [DecidableEq α] : ∀ {l : List α} {x : α}, x ∈ dd l ↔ x ∈ l
  | [], x => Iff.rfl
  | y :: r, x => by
    unfold dd
    split
    · rename_i h
      rw [dd_mem, List.mem_cons]
      exact ⟨.inr, fun z => by
        rcases z with z | z
        · rw [z]; exact h
        · exact z⟩
    · rw [List.mem_cons, List.mem_cons, dd_mem]
theorem dd_nodup {α : Type} [DecidableEq α] : ∀ {l : List α}, (dd l).Nodup
  | [] => List.nodup_nil
  | y :: r => by
    unfold dd
    split
    · exact dd_nodup
    · rename_i h
      exact List.nodup_cons.mpr ⟨fun z => h (dd_mem.mp z), dd_nodup⟩
theorem nodup_le {α : Type} [DecidableEq α] : ∀ {l m : List α}, l.Nodup → (∀ x ∈ l, x ∈ m) → l.length ≤ m.length
  | [], _, _, _ => Nat.zero_le _
  | x :: l, m, h, hs => by
    have h' := List.nodup_cons.mp h
    have hx := hs x (by simp)
    have := nodup_le (l := l) (m := m.erase x) h'.2 fun y hy => (List.mem_erase_of_ne (fun e => h'.1 (by rw [← e]; exact hy))).mpr (hs y (by simp [hy]))
    rw [List.length_erase_of_mem hx] at this
    have := List.length_pos_of_mem hx
    rw [List.length_cons]
    omega
theorem nodup_len {α : Type} [DecidableEq α] {l m : List α} (h1 : l.Nodup) (h2 : m.Nodup) (h : ∀ x, x ∈ l ↔ x ∈ m) : l.length = m.length := Nat.le_antisymm (nodup_le h1 fun x => (h x).mp) (nodup_le h2 fun x => (h x).mpr)
def oLSet (d : D) : Option D := match d with
  | .lst xs => (match ints? xs with
    | some is => (match Nat.blt is.length 64 with | true => some (.int (dd is).length) | false => none)
    | none => (match tupi? xs with
      | some ks => (match Nat.blt ks.length 64 with | true => some (.int (dd ks).length) | false => none)
      | none => none))
  | _ => none
theorem u_lset {G : Cn} {P : Program} {w : World} : U1 G .sh oLSet (fun x H Q => (fun vs H Q => rSetOfT G.K P w vs H Q ∨ rSetI G.K w vs H Q) [x] H fun y H' => rLenS P w [y] H' Q) := by
  intro st1 σ H1 O1 v d0 d Q S1 r1 e q
  cases d0 with
  | lst xs =>
    obtain ⟨a, vs, rfl, hr, hs⟩ := r1.lst
    cases ei : ints? xs with
    | some is =>
      simp only [oLSet, ei] at e
      cases c : Nat.blt is.length 64 with
      | false => simp only [c] at e; cases e
      | true =>
        simp only [c] at e
        cases e
        have c1 : is.length < 64 := by
          have := Nat.le_of_ble_eq_true c
          omega
        rw [ints_of ei hs] at hr
        refine .inr ⟨a, is, rfl, .inl (.inl hr), c1, fun b n hb hn => ⟨b, rfl, .inl ⟨_, n, upd_same, by omega, fun ks nd mem => ?_⟩⟩⟩
        have eq : ks.length = (dd is).length := nodup_len nd dd_nodup fun x => by rw [mem, dd_mem]; simp
        have S2 : SR G st1 σ (upd H1 b (SetO w b (fun j => decide (j ∈ is)) n)) O1 := S1.new hb
        rw [eq]
        exact q _ _ _ (Stp.new hb) S2 (.inl (.int _))
    | none =>
      simp only [oLSet, ei] at e
      cases et : tupi? xs with
      | none => simp only [et] at e; cases e
      | some ks =>
        simp only [et] at e
        cases c : Nat.blt ks.length 64 with
        | false => simp only [c] at e; cases e
        | true =>
          simp only [c] at e
          cases e
          have c1 : ks.length < 64 := by
            have := Nat.le_of_ble_eq_true c
            omega
          obtain ⟨ps, rfl, rfl, hp⟩ := tups_of et hs
          refine .inl ⟨a, ps, rfl, .inl hr, hp, by simpa using c1, fun b L hb hsub hcov => ⟨b, rfl, .inr ⟨L, upd_same, fun nd _ => ?_⟩⟩⟩
          have eq : L.length = (dd (ps.map (·.2))).length := by
            rw [← List.length_map (f := (·.2)) (as := L)]
            refine nodup_len nd dd_nodup fun x => ?_
            rw [dd_mem]
            constructor
            · intro hx
              obtain ⟨p, hp1, rfl⟩ := List.mem_map.mp hx
              exact List.mem_map.mpr ⟨p, hsub p hp1, rfl⟩
            · intro hx
              obtain ⟨p, hp1, rfl⟩ := List.mem_map.mp hx
              exact hcov p hp1
          have S2 : SR G st1 σ (upd H1 b (SetTO P w b L)) O1 := S1.new hb
          rw [eq]
          exact q _ _ _ (Stp.new hb) S2 (.inl (.int _))
  | _ => cases e
/-! {k: v}: a dict of one pair, shared, never looked into -/
def mDic (k m : ME) : ME := fun st => (k st).bind fun p => match p.1 with | .int _ => (m p.2).bind fun q => .ok (.dic, q.2) | _ => .bad
section
variable {K : PySem.W.Frag} {H : Hp} {F : Addr → Prop} {p : Addr} {kvs kvs' : List (Key × V)}
theorem rd_nd (hp : H p = some (.dK kvs)) {a : Addr} {u : HO} (h : Rd H a u) (hu : ∀ k, u ≠ .dK k) : Rd (upd H p (.dK kvs')) a u := by
  have ne : a ≠ p := by
    rintro rfl
    rcases h with h | ⟨o, h⟩
    · rw [hp] at h; cases h; exact hu _ rfl
    · rw [hp] at h; cases h
  rcases h with h | ⟨o, h⟩
  · exact .inl (by rw [upd_ne ne]; exact h)
  · exact .inr ⟨o, by rw [upd_ne ne]; exact h⟩
mutual
theorem Sh.updD (hp : H p = some (.dK kvs)) : ∀ {v : V} {d : D}, Sh K H F v d → Sh K (upd H p (.dK kvs')) F v d
  | _, _, .non => .non
  | _, _, .bl b => .bl b
  | _, _, .int i => .int i
  | _, _, .str x h => .str x h
  | _, _, .tup h hs => .tup (h.elim (fun q => .inl (rd_nd hp q fun _ e => nomatch e)) fun q => .inr q) (Shs.updD hp hs)
  | _, _, .lst h n hs => .lst (rd_nd hp h fun _ e => nomatch e) n (Shs.updD hp hs)
  | .ref a, _, .dic (kvs := k) h => by
    by_cases e : a = p
    · subst e; exact .dic (.inl upd_same)
    · refine .dic (kvs := k) ?_
      rcases h with h | ⟨o, h⟩
      · exact .inl (by rw [upd_ne e]; exact h)
      · exact .inr ⟨o, by rw [upd_ne e]; exact h⟩
theorem Shs.updD (hp : H p = some (.dK kvs)) : ∀ {v : List V} {d : List D}, Shs K H F v d → Shs K (upd H p (.dK kvs')) F v d
  | _, _, .nil => .nil
  | _, _, .cons h hs => .cons (Sh.updD hp h) (Shs.updD hp hs)
end
end
section
variable {G : Cn} {st : AS} {σ : L2.St} {H : Hp} {O : Addr → Prop} {p : Addr} {kvs kvs' : List (Key × V)}
theorem upd_lst (hp : H p = some (.dK kvs)) {a : Addr} {xs : List V} (h : H a = some (.lst xs)) : upd H p (.dK kvs') a = some (.lst xs) := by
  rw [upd_ne (fun e => by rw [e, hp] at h; cases h)]
  exact h
theorem SR.updD (S : SR G st σ H O) (hp : H p = some (.dK kvs)) : SR G st σ (upd H p (.dK kvs')) O where
  len := S.len
  val := fun i d e => by
    obtain ⟨v, e1, q⟩ := S.val i d e
    refine ⟨v, e1, ?_⟩
    cases hk : G.kd i with
    | true =>
      rw [hk] at q
      obtain ⟨b, rfl, ho, ds, vs, e2, e3, e4⟩ := q
      exact ⟨b, rfl, ho, ds, vs, e2, upd_lst hp e3, e4.updD hp⟩
    | false =>
      rw [hk] at q
      exact q.elim (fun z => .inl (z.updD hp)) .inr
  ap := S.ap
  tr := fun a z => by
    obtain ⟨xs, e⟩ := S.tr a z
    exact ⟨xs, upd_lst hp e⟩
  bo := S.bo
  hn := fun a e => by
    obtain ⟨b, i, l, m, n, cs, h3, h4, h5⟩ := S.hn a e
    exact ⟨b, i, l, m, n, cs, upd_lst hp h3, upd_lst hp h4, h5⟩
end
theorem pe_dic {X : Cx} {G : Cn} {ek ev : Expr} {pos : Pos} {k m : ME} (hk : PE X ek (T G .sh true k)) (hm : PE X ev (T G .sh true m)) : PE X (.Dict [some ek] [ev] pos) (T G .sh true (mDic k m)) :=
  PE.weak (pe_disp (pps_cons hk hm pps_nil) rfl rfl (by simp) (show 1 ≤ 15 by decide)) fun σ H Q q p np => by
    obtain ⟨st, O, S, q⟩ := q
    have S0 : SR G st σ (upd H p (.dK [])) O := S.new np
    refine ⟨st, O, S0, R.all_mono (fun x q v H1 O1 s1 S1 r1 => ?_) (R.all_bind q)⟩
    obtain ⟨d, st1⟩ := x
    cases d with
    | int i =>
      refine ⟨st1, O1, S1, R.all_mono (fun y q w H2 O2 s2 S2 r2 => ?_) (R.all_bind q)⟩
      have hv : v = .int i := by
        rcases r1 with h | ⟨e, _⟩
        · cases h; rfl
        · cases e
      subst hv
      have nh : G.hd ≠ some p := fun z => by
        obtain ⟨_, _, _, _, _, _, e, _⟩ := S.hn p z
        rw [np] at e; cases e
      have e1 : H1 p = some (.dK []) := s1.pr p _ upd_same (.inl rfl) nh
      have e2 : H2 p = some (.dK []) := s2.pr p _ e1 (.inl rfl) nh
      refine ⟨e2, [(Sum.inl i, w)], rfl, (show 1 ≤ 15 by decide), ?_⟩
      have S3 : SR G y.2 σ (upd H2 p (.dK (mergeK [] [(Sum.inl i, w)]))) O2 := S2.updD e2
      refine q _ _ O2 ⟨fun a o e _ n => ?_, fun a z => ?_⟩ S3 (.inl (.dic (.inl upd_same)))
      · have ne : a ≠ p := fun z => by rw [z, np] at e; cases e
        rw [upd_ne ne]
        exact s2.pr a o (s1.pr a o (by rw [upd_ne ne]; exact e) (.inl rfl) n) (.inl rfl) n
      · rcases s2.nw a z with z | z
        · rcases s1.nw a z with z | z
          · exact .inl z
          · by_cases e : a = p
            · rw [e, upd_same] at z; cases z
            · rw [upd_ne e] at z; exact .inr z
        · cases e3 : H a with
          | none => exact .inr rfl
          | some o =>
            by_cases ho : G.hd = some a
            · obtain ⟨_, _, _, _, _, _, e4, _⟩ := S1.hn a ho
              rw [z] at e4; cases e4
            · have ne : a ≠ p := fun z => by rw [z, np] at e3; cases e3
              have := s1.pr a o (by rw [upd_ne ne]; exact e3) (.inl rfl) ho
              rw [z] at this; cases this
    | _ => exact q.elim
/-! list + list, shared -/
def oAddL (d e : D) : Option D := match d with
  | .lst xs => (match e with | .lst ys => (match lenOk (xs.length + ys.length) with | true => some (.lst (xs ++ ys)) | false => none) | _ => none)
  | d => oAdd d e
theorem u_addL {G : Cn} : U2 G .sh oAddL (fun x y H Q => rCatL x y H Q ∨ (rI0 (fun i j => .int (i + j)) x y H Q ∨ (rCatA G.K x y H Q ∨ ∃ i j, x = .str i ∧ y = .str j ∧ i.length + j.length ≤ sizeLine ∧ Q (.str (i ++ j)) H))) := by
  intro st σ H O v w d e d' Q S hv hw ho q
  cases d with
  | lst xs =>
    cases e with
    | lst ys =>
      simp only [oAddL] at ho
      cases c : lenOk (xs.length + ys.length) with
      | false => rw [c] at ho; cases ho
      | true =>
        rw [c] at ho
        cases ho
        obtain ⟨a, vs, rfl, h1, h2⟩ := hv.lst
        obtain ⟨b, ws, rfl, h3, h4⟩ := hw.lst
        refine .inl ⟨a, b, vs, ws, rfl, rfl, h1, h3, by rw [h2.length, h4.length]; exact Nat.le_of_lt (lenOk_le c), fun p hp => ?_⟩
        refine q _ _ O (Stp.new hp) (S.new hp) (.inl (.lst (.inl upd_same) (fun z => ?_) (S.cars0 (Stp.new (o := .lst (vs ++ ws)) hp) (h2.append h4))))
        obtain ⟨xs, e⟩ := S.tr p z
        rw [hp] at e
        cases e
    | _ => cases ho
  | _ => exact .inr (u_add S hv hw ho q)
end EV
/-! enumerate over a tuple -/
namespace L2
open PySem PySem.Spec PyProof.Rows
set_option maxHeartbeats 1000000 in
theorem meets_enumerate_newT {v : Value} {o : Obj} {H : Heap → Prop} (B : Begins v o H) :
    Meets (Builtin.«enumerate.__new__» ⟨[.type "enumerate", v], []⟩) (fun _ R s => H s.heap ∧
      R (.ok (.ret (.ref (s.heap.push o).objs.size))) { s with heap := (s.heap.push o).push { cls := .type "enumerate", data := .fields #[.none, .bool false, .ref s.heap.objs.size, rawInt 0, .none, .none] } }) :=
  .of_wp fun prog w A R s h => by
    obtain ⟨hp, g, d, tk, os⟩ := s; obtain ⟨h1, h⟩ := h
    have hsub := sub_enumerate
    have q1 : ∀ {A' : Around} {E : Value → Shared → Prop} {Q : Value → Shared → Prop}, Q (.ref hp.objs.size) ⟨hp.push o, g, d, tk, os⟩ → wpAny (model prog w) A' (pyIter v) Q E ⟨hp, g, d, tk, os⟩ :=
      fun q => B.iter prog w _ _ ⟨hp, g, d, tk, os⟩ _ h1 q
    wp_walk using q1
    refine wpAny_stack_any fun st => wpAny_pure ?_
    split
    · rename_i c _ _ _ _ _
      cases (c == Value.type "enumerate")
      · wp_walk using q1
        exact ⟨_, rfl, h⟩
      · wp_walk using q1
        exact ⟨_, rfl, h⟩
    · wp_walk using q1
      exact ⟨_, rfl, h⟩
section
variable {prog : Program} {w : World} {A : Around} {E : Value → Shared → Prop} {s : Shared}
theorem enum_begins1 {v : Value} {o : Obj} {H : Heap → Prop} {Q : Value → Shared → Prop} (B : Begins v o H) (h1 : H s.heap)
    (h : ∀ h', IsEnum h' (s.heap.objs.size + 1) s.heap.objs.size 0 .none → h'.get? s.heap.objs.size = some o → h'.objs.size = s.heap.objs.size + 2 →
      (∀ b o, s.heap.get? b = some o → h'.get? b = some o) → Q (.ref (s.heap.objs.size + 1)) { s with heap := h' }) :
    wpAny (model prog w) A (call (.type "enumerate") [v]) Q E s := by
  refine callType_new F.called_enumerate (by decide) (F.typeCall_enumerate_1 _) (F.newCall_enumerate_1 _) (fun obj => F.args_object_init_2 obj _) F.entry_enumerate_new
    (meets_enumerate_newT B) ⟨h1, ?_⟩
  have hz : (s.heap.push o).objs.size = s.heap.objs.size + 1 := Heap.size_push ..
  show _ ∧ _
  rw [hz]
  have he : IsEnum ((s.heap.push o).push { cls := .type "enumerate", data := .fields #[.none, .bool false, .ref s.heap.objs.size, rawInt 0, .none, .none] }) (s.heap.objs.size + 1) s.heap.objs.size 0 .none := by
    have := Heap.get?_push_size (s.heap.push o) (o := { cls := .type "enumerate", data := .fields #[.none, .bool false, .ref s.heap.objs.size, rawInt 0, .none, .none] }) rfl
    rw [hz] at this; exact this
  refine ⟨⟨_, he, rfl⟩, h _ he (Heap.get?_push_of_some _ (Heap.get?_push_size _ B.free)) (by rw [Heap.size_push, hz]) fun b o x => Heap.get?_push_of_some _ (Heap.get?_push_of_some _ x)⟩
end
theorem enum_endT {prog : Program} {w : World} {A : Around} {E : Value → Shared → Prop} {s : Shared} {e it a : Addr} {items : Array Value} {k : Nat} {i : Int} {old : Value} {Q : Option Value → Shared → Prop}
    (hh : A.in1.handled = none) (he : IsEnum s.heap e it i old) (h1 : s.heap.IsTupleIter it a k) (h2 : s.heap.IsTuple a items) (hk : items.size ≤ k)
    (hQ : ∀ h', Heap.ExtBut it s.heap h' → Q none { s with heap := h' }) : wpAny (model prog w) A (pyNext (.ref e)) Q E s := by
  have hT : s.TypeIs (.ref e) "enumerate" := ⟨_, he, rfl⟩
  unfold pyNext
  refine wpAny_bind (wpAny_attempt (wpAny_callSpecial?_slot (name := Str.ofString "__next__") hT F.slot_enumerate_next
    (wpAny_call_entry F.slot_enumerate_next hT F.entry_enumerate_next ?_ (F.args_enumerate_next_1 _))))
  show wpAny _ _ (field (.ref e) 2 >>= _) _ _ _
  refine wpAny_bind (wpAny_field he rfl (x := .ref it) rfl ?_)
  refine wpAny_bind (wpAny_nextOf_tuple_end hh h1 h2 (by simp; exact hk) fun h' x he' hx' => ?_)
  obtain ⟨o, ho, hc⟩ := hx'
  refine wpAny_bind (wpAny_isInstance (T := "StopIteration") (b := true) ⟨o, ho, hc⟩ isSubtype_stop ?_)
  exact wpAny_pure (hQ _ he')
def IteT (K : PySem.W.Frag) (a : Addr) : It :=
  ⟨fun i H => ∃ (xs : List V) (x : V), SqT K H a xs ∧ xs[i]? = some x, fun i H v H' => ∃ T x, v = .ref T ∧ H T = none ∧ H' = upd H T (.tup [.int (i : Nat), x]) ∧ ∀ xs, SqT K H a xs → xs[i]? = some x, fun i H => ∃ xs : List V, SqT K H a xs ∧ xs.length ≤ i⟩
theorem turn_enumT {P : Program} {w : World} {K : PySem.W.Frag} {elts : List Expr} {kk : Nat} {tpos : Pos} (a e it : Addr) :
    Turn P w K (.Tuple elts kk tpos) (IteT K a) [e, it] e (fun i h => (∃ old, IsEnum h e it ((i : Nat) : Int) old) ∧ h.IsTupleIter it a i ∧ e ≠ it ∧ a ≠ it ∧ e ≠ a) where
  mem := by simp
  obj := fun i h st b hb => by
    obtain ⟨⟨old, he⟩, ⟨o, ho, hc, hd⟩, _⟩ := st
    have e' : b = e ∨ b = it := by simpa using hb
    rcases e' with z | z
    · rw [z]; exact ⟨_, he, fun v q => nomatch q⟩
    · rw [z]; exact ⟨o, ho, fun v q => by rw [hd] at q; cases q⟩
  keep := fun i h h' st k => let ⟨⟨old, he⟩, hi, hne⟩ := st; ⟨⟨old, k e (by simp) _ he⟩, hi.at fun o q => k it (by simp) o q, hne⟩
  item := by
    intro X hP hw hK hc i pins s σ H E I hf st hg
    subst hP hw hK
    obtain ⟨⟨old, he⟩, hit, hne, hai, hea⟩ := st
    obtain ⟨xs, x, hq, hx⟩ := hg
    obtain ⟨its, rv, p, hz⟩ := I.tuple hq
    obtain ⟨u, hu, ru⟩ := rv.get hx
    have hel : e < s.heap.objs.size := Heap.lt_size he
    have hil : it < s.heap.objs.size := by obtain ⟨_, q, _⟩ := hit; exact Heap.lt_size q
    have hlt : i < its.toArray.size := by
      have := (List.getElem?_eq_some_iff.mp hu).1
      simpa using this
    refine wpAny_pyNext_enum_itemD (Draws.tuple (prog := X.prog) (w := X.w) (A := X.A.in1) (show X.A.in1.handled = none from I.ok.hd hc) it a hai its.toArray) he ⟨hit, (show s.heap.IsTuple a its.toArray from p)⟩ hlt hne (by simp [hne, hea]) fun y h' tk hy ho hst hT hsz hk => ?_
    have ey : y = u := by
      have : its[i]? = some y := by simpa using hy
      rw [hu] at this
      exact (Option.some.inj this).symm
    subst ey
    refine ⟨_, rfl, wpAny_letOwnedTupleGo_enum (s := { s with heap := h', toks := tk + 1 }) ho fun h'' he' sb => ?_⟩
    have hT2 : h''.get? s.heap.objs.size = some { cls := .type "tuple", data := .seq #[.int i tk, y] } := (sb.2 _ (Nat.ne_of_gt hel)).trans hT
    have new : ObjOk X.prog X.w (upd H s.heap.objs.size (.tup [.int (i : Nat), x])) h'' s.heap.objs.size (.tup [.int (i : Nat), x]) :=
      ⟨by show 2 ≤ sizeLine; decide, [.int i tk, y], .cons ⟨_, rfl⟩ (.cons ru .nil), ⟨_, hT2, rfl, _, rfl⟩⟩
    have I1 : Inv X pins σ (upd H s.heap.objs.size (.tup [.int (i : Nat), x])) { s with heap := h'', toks := tk + 1 } :=
      I.turnedNew (ch := [e, it]) (fun b ob hb q => (sb.2 b (fun z => hb (by simp [z]))).trans (hk b ob (fun z => hb (by simp [z])) (fun z => hb (by simp [z])) q)) hf (Nat.le_refl _) new
    refine ⟨.ref s.heap.objs.size, _, I1, rfl, ⟨_, x, rfl, I.hok.fresh (Nat.le_refl _), rfl, fun ys hy => by rw [I.tuple_inj hy hq]; exact hx⟩, ⟨⟨y, ?_⟩, hst.1.at fun o q => (sb.2 it (Ne.symm hne)).trans q, hne, hai, hea⟩, fun b hb => ?_⟩
    · have e1 : ((i + 1 : Nat) : Int) = (i : Int) + 1 := by omega
      rw [e1]; exact he'
    · have hb' : b < s.heap.objs.size := by
        have e' : b = e ∨ b = it := by simpa using hb
        rcases e' with z | z
        · rw [z]; exact hel
        · rw [z]; exact hil
      rw [upd_ne (Nat.ne_of_lt hb')]
      exact (hf b hb).1
  done := by
    intro X hP hw hK hc i pins s σ H E I hf st hg
    subst hP hw hK
    obtain ⟨⟨old, he⟩, hit, hne, hai, hea⟩ := st
    obtain ⟨xs, hq, hx⟩ := hg
    obtain ⟨its, rv, p, hz⟩ := I.tuple hq
    obtain ⟨f0, f1, f2, f3, f4, f5⟩ := hf it (by simp)
    have hl := rv.length
    exact enum_endT (show X.A.in1.handled = none from I.ok.hd hc) he hit (show s.heap.IsTuple a its.toArray from p) (by simp; omega) fun h' eb => ⟨rfl, I.turned (t' := s.toks) (fun b o hb q => eb b o hb q) f0 f1 f3 f4 f5⟩
  self := fun A i s Q E st h => let ⟨⟨_, he⟩, _⟩ := st; wpAny_pyIter_enum he h
end L2
namespace L2
open PySem PySem.Spec PyProof.Rows
def iEnumT (K : PySem.W.Frag) (ta : TA) : TI := fun σ H R => ta σ H fun vs H1 => ∃ a xs, vs = [.ref a] ∧ ((SqL K H1 a xs ∧ R (Ite K a) H1) ∨ (SqT K H1 a xs ∧ R (IteT K a) H1))
theorem pi_enumT {X : Cx} {e : Expr} {ta : TA} {p pos tpos : Pos} {elts : List Expr} {kk : Nat} (hg : Gl X "enumerate") (hm : X.mg "enumerate" = none) (ha : PA X [e] ta) (hs : starEach [e] X.env = [(false, eval e X.env)] := by rfl) :
    PI X (.Tuple elts kk tpos) (.Call (.Name "enumerate" p) [e] [] pos) (iEnumT X.K ta) := by
  refine ⟨fun pins s σ H R I h => ?_⟩
  refine Call_ (ld_blt I hg hm boot_enumerate (PyProof.Rows.callWith_type1 (thn (ha.run pos pins s σ H _ I h) fun us s1 ⟨vs, H1, I1, r1, q1⟩ => ?_) hs rfl))
  obtain ⟨a, xs, ex, q1⟩ := q1
  subst ex
  cases r1 with
  | cons r rr =>
    cases rr
    cases r
    rcases q1 with ⟨hq, q⟩ | ⟨hq, q⟩
    · obtain ⟨its, rv, p', hz⟩ := I1.list hq
      refine call_enumerate_list p'.isList fun h' he hit hsz hk => wpAny_pyIter_enum he ?_
      have I2 : Inv X pins σ H1 { s1 with heap := h' } := I1.kept (t' := s1.toks) hk
      refine ⟨s1.heap.objs.size + 1, [s1.heap.objs.size + 1, s1.heap.objs.size], _, _, H1, rfl, I2, turn_enum a (s1.heap.objs.size + 1) s1.heap.objs.size, ⟨⟨.none, he⟩, hit, Nat.succ_ne_self _⟩, fun b hb => ?_, q⟩
      have e' : b = s1.heap.objs.size + 1 ∨ b = s1.heap.objs.size := by simpa using hb
      have hle : s1.heap.objs.size ≤ b := by
        rcases e' with z | z
        · rw [z]; exact Nat.le_add_right _ _
        · rw [z]; exact Nat.le_refl _
      exact I1.fpOk hle (I1.hok.fresh hle)
    · obtain ⟨its, rv, p', hz⟩ := I1.tuple hq
      have hT : s1.heap.IsTuple a its.toArray := p'
      have hal : a < s1.heap.objs.size := by obtain ⟨_, q, _⟩ := hT; exact Heap.lt_size q
      refine enum_begins1 (begins_tuple a its.toArray) hT fun h' he hit hsz hk => wpAny_pyIter_enum he ?_
      have I2 : Inv X pins σ H1 { s1 with heap := h' } := I1.kept (t' := s1.toks) hk
      refine ⟨s1.heap.objs.size + 1, [s1.heap.objs.size + 1, s1.heap.objs.size], _, _, H1, rfl, I2, turn_enumT a (s1.heap.objs.size + 1) s1.heap.objs.size, ⟨⟨.none, he⟩, ⟨_, hit, rfl, rfl⟩, Nat.succ_ne_self _, Nat.ne_of_lt hal, Nat.ne_of_gt (Nat.lt_succ_of_lt hal)⟩, fun b hb => ?_, q⟩
      have e' : b = s1.heap.objs.size + 1 ∨ b = s1.heap.objs.size := by simpa using hb
      have hle : s1.heap.objs.size ≤ b := by
        rcases e' with z | z
        · rw [z]; exact Nat.le_add_right _ _
        · rw [z]; exact Nat.le_refl _
      exact I1.fpOk hle (I1.hok.fresh hle)
end L2
namespace EV
open PySem PySem.Spec PyProof.Rows L2
section
variable {X : Cx} {G : Cn} {pu : Bool}
theorem it_enumT {H : Hp} {O : Addr → Prop} {a : Addr} {vs : List V} {xs : List D} (ha : SqT G.K H a vs) (hx : Shs G.K H (G.F O) vs xs) : ItOk G false (IteT G.K a) (enumD 0 xs) H O := by
  refine ⟨fun B H O => SqT G.K H a vs ∧ Shs G.K H ((G.at B).F O) vs xs, ⟨ha, hx⟩, ?_, ?_, ?_, ?_⟩
  · rintro B st σ H O H' O' ⟨h1, h5⟩ S sp
    exact ⟨stabT (G := G.at B) S sp h1, S.cars0 sp h5⟩
  · rintro B i st σ H O ⟨h1, h5⟩ S
    refine ⟨fun hi => ?_, fun hi => ⟨vs, h1, by rw [enumD_len] at hi; rw [h5.length]; exact hi⟩⟩
    rw [enumD_len] at hi
    obtain ⟨v, e1, r1⟩ := h5.get (List.getElem?_eq_getElem hi)
    refine ⟨⟨vs, v, h1, e1⟩, ?_⟩
    rintro x H' ⟨A, x1, ex, hA, eH, f1⟩
    have g1 := f1 vs h1
    rw [e1] at g1
    cases g1
    refine ⟨_, enumD_get (k := 0) (List.getElem?_eq_getElem hi), yld_pair S (.int _) r1 hA ex ?_⟩
    rw [Int.zero_add]
    exact eH
  · rintro B A st σ H O ⟨h1, h5⟩ S hA
    exact ⟨sqt_upd hA h1, shs_add hA h5⟩
  · rintro B A zs H O ⟨h1, h5⟩ hB hA
    exact ⟨sqt_set hA h1, shs_set (.inl hB) hA h5⟩
def sEnumT (m : ME) : MI := fun st => (m st).bind fun p => match p.1 with | .lst xs => .ok (enumD 0 xs, p.2) | .tup xs => .ok (enumD 0 xs, p.2) | _ => .bad
theorem i_enumT {a : Expr} {m : ME} {p pos tpos : Pos} {elts : List Expr} {kk : Nat} (hK : X.K = G.K) (hg : Gl X "enumerate") (hm : X.mg "enumerate" = none) (ha : PE X a (T G .sh pu m)) (hs : notStar a = true) :
    PI X (.Tuple elts kk tpos) (.Call (.Name "enumerate" p) [a] [] pos) (TSrc G pu false (sEnumT m)) :=
  PI.weak (pi_enumT hg hm (pa_cons ha pa_nil (star_of hs)) (star_of hs)) fun σ H Z q => by
  obtain ⟨st, O, S, q⟩ := q
  refine ⟨st, O, S, R.all_mono (fun p q v H1 O1 s1 S1 r1 => ?_) (R.all_bind q)⟩
  obtain ⟨d, st1⟩ := p
  cases d with
  | lst xs =>
    rcases r1 with r1 | ⟨z, _⟩
    · cases r1 with
      | lst hr hf hss =>
        rw [hK]
        exact ⟨_, _, rfl, .inl ⟨.inl hr, q _ H1 O1 s1 S1 (it_enum hr hf hss)⟩⟩
    · cases z
  | tup xs =>
    rcases r1 with r1 | ⟨z, _⟩
    · cases r1 with
      | tup hr hss =>
        rw [hK]
        exact ⟨_, _, rfl, .inr ⟨hr, q _ H1 O1 s1 S1 (it_enumT hr hss)⟩⟩
    · cases z
  | _ => exact q.elim
end
end EV
/-! code as a tree of one's own, what it means, whether it is a given text -/
namespace EV
open PySem PySem.Spec PyProof.Rows L2 RZ
/-! several names at once; a value that is dropped -/
def setAll : List Nat → List D → AS → Option AS
  | [], [], st => some st
  | i :: is, d :: ds, st => setAll is ds (st.set i (some d))
  | _, _, _ => none
def sPar (is : List Nat) (l : ML) : MS := fun st => (l st).bind fun x => match setAll is x.1 x.2 with | some st' => .ok (.nx st') | none => .bad
/-- all slots but these are forgotten -/
def maskA (ks : List Nat) : Nat → AS → AS
  | _, [] => []
  | i, x :: st => (match ks.contains i with | true => x | false => none) :: maskA ks (i + 1) st
theorem mask_len {ks : List Nat} : ∀ {st : AS} {i : Nat}, (maskA ks i st).length = st.length
  | [], _ => rfl
  | _ :: st, i => congrArg (· + 1) (mask_len (st := st) (i := i + 1))
theorem mask_get {ks : List Nat} {d : D} : ∀ {st : AS} {i j : Nat}, (maskA ks i st)[j]? = some (some d) → st[j]? = some (some d)
  | [], _, _, e => by cases e
  | x :: st, i, 0, e => by
    unfold maskA at e
    cases h : ks.contains i with
    | true => rw [h] at e; exact e
    | false => rw [h] at e; cases e
  | _ :: st, i, j + 1, e => by
    have := mask_get (st := st) (i := i + 1) (j := j) (by unfold maskA at e; simpa using e)
    simpa using this
def sFgt (ks : List Nat) (m : MS) : MS := fun st => m (maskA ks 0 st)
def sDrp (m : ME) : MS := fun st => (m st).bind fun x => .ok (.nx x.2)
section
variable {X : Cx} {G : Cn} {ro : Bool} {pu : Bool}
theorem w_fgt {ks : List Nat} {m : MS} (Dn : Ends) (σ : L2.St) (H : Hp) (q : TSm G ro (sFgt ks m) Dn σ H) : TSm G ro m Dn σ H := by
  obtain ⟨st, O, S, q⟩ := q
  exact ⟨maskA ks 0 st, O, S.less (by rw [mask_len]; exact S.len) fun j d' e => ⟨mask_get e, rfl⟩, q⟩
theorem w_par2 {i j : Nat} {l : ML} (hi : G.kd i = false) (hj : G.kd j = false) (Dn : Ends) (σ : L2.St) (H : Hp) (q : TSm G ro (sPar [i, j] l) Dn σ H) : tPar i j (TL G pu l) Dn σ H := by
  obtain ⟨st, O, S, q⟩ := q
  refine ⟨st, O, S, R.all_mono (fun x q vs H1 O1 s1 S1 r1 => ?_) (R.all_bind q)⟩
  obtain ⟨ds, st1⟩ := x
  cases r1 with
  | nil => exact q.elim
  | cons a r1 =>
    cases r1 with
    | nil => exact q.elim
    | cons b r1 =>
      cases r1 with
      | cons _ _ => exact q.elim
      | nil => exact ⟨_, _, rfl, q _ H1 O1 s1.weak ((S1.putS hi a).putS hj b)⟩
theorem w_par3 {i j k : Nat} {l : ML} (hi : G.kd i = false) (hj : G.kd j = false) (hk : G.kd k = false) (Dn : Ends) (σ : L2.St) (H : Hp) (q : TSm G ro (sPar [i, j, k] l) Dn σ H) : tPar3 i j k (TL G pu l) Dn σ H := by
  obtain ⟨st, O, S, q⟩ := q
  refine ⟨st, O, S, R.all_mono (fun x q vs H1 O1 s1 S1 r1 => ?_) (R.all_bind q)⟩
  obtain ⟨ds, st1⟩ := x
  cases r1 with
  | nil => exact q.elim
  | cons a r1 =>
    cases r1 with
    | nil => exact q.elim
    | cons b r1 =>
      cases r1 with
      | nil => exact q.elim
      | cons c r1 =>
        cases r1 with
        | cons _ _ => exact q.elim
        | nil => exact ⟨_, _, _, rfl, q _ H1 O1 s1.weak (((S1.putS hi a).putS hj b).putS hk c)⟩
theorem w_drp {m : ME} (Dn : Ends) (σ : L2.St) (H : Hp) (q : TSm G ro (sDrp m) Dn σ H) : tDrop (T G .sh pu m) Dn σ H := by
  obtain ⟨st, O, S, q⟩ := q
  exact ⟨st, O, S, R.all_mono (fun x q v H1 O1 s1 S1 r1 => q σ H1 O1 s1.weak S1) (R.all_bind q)⟩
/-- a test of a comparison -/
theorem w_tst {m : ME} (σ : L2.St) (H : Hp) (Q : Bool → Hp → Prop) (q : TB G true (tVal m) σ H Q) : T G .sh true m σ H (fun x H' => ∃ k, x = .bl k ∧ Q k H') := by
  obtain ⟨st, O, S, q⟩ := q
  refine ⟨st, O, S, R.all_mono (fun p q v H1 O1 s1 S1 r1 => ?_) (R.all_bind q)⟩
  obtain ⟨d, st1⟩ := p
  cases d with
  | bl b => exact ⟨b, bl_sh (st := st1) (σ := σ) (O := O1) r1, q H1 O1 s1 S1⟩
  | _ => exact q.elim
theorem TL.any_pu {es : List Expr} {l : ML} (h : PA X es (TL G true l)) : PA X es (TL G pu l) := PA.weak h fun σ H Q q => by
  obtain ⟨st, O, S, q⟩ := q
  refine ⟨st, O, S, R.all_mono (fun p q v H' O' sp S' vr => q v H' O' ?_ S' vr) q⟩
  exact ⟨fun a o e _ n => sp.pr a o e (.inl rfl) n, sp.nw⟩
end
inductive BO | add | sub | mul | div | mod
inductive CO | lt | le | gt | ge | eq | ne | isIn | notIn
inductive UO | len | sum | all | any | tuple | int | abs | min | max
inductive C where
  | k (d : D) | g (j : Nat) | v (i : Nat) | b (i : Nat) | m (i : Nat)
  | bin (o : BO) (a b : C) | cmp (o : CO) (a b : C) | isN (f : Bool) (a : C) | isB (f : Bool) (a b : C) | chain (o p : CO) (a b c : C) | neg (a : C)
  | not (a : C) | and (a b : C) | or (a b : C) | one (a : C) | ifx (t a b : C)
  | nil | cons (a b : C) | tup (l : C) | lst (l : C)
  | ix (a i : C) | sl (own : Bool) (a lo hi : C) | rev (own : Bool) (a : C) | np | pt (a : C)
  | c1 (f : UO) (a : C) | list (a : C) | sorted (a : C) | isi (ts : List TN) (a : C) | fn (j : Nat) (l : C)
  | lc (own : List Nat) (p : Pat) (s c e : C) | yes
  | seq (a : C) | seqB (a : C) | r1 (a : C) | r2 (a b : C) | zip (a b : C)
  | pop (i : Nat) | popAt (i : Nat) (a : C)
  | skip | sq (a b : C) | pass | brk | cnt | ret (a : C) | retN | ifs (t a b : C) | asg (p : Pat) (a : C) | aso (i : Nat) (a : C) | for_ (s : C) (p : Pat) (b : C) | wh (n : Nat) (t b : C) | app (i : Nat) (a : C) | ext (i : Nat) (a : C) | nev | doc | par (is : List Nat) (l : C) | drp (a : C) | fgt (ks : List Nat) (a : C)
  | mm (f : Bool) (a b : C) | aug (f : Bool) (i : Nat) (a : C) | set (i : Nat) (k v : C) | enum (a : C) | parO (i j : Nat) (a b : C)
  | rep (a b : C) | augS (f : Bool) (i : Nat) (k v : C) | parSO (i j : Nat) (a b : C) | parOOS (i j k : Nat) (a b c : C) | sset (a : C) | cat (a b : C) | lset (a : C) | dic1 (a b : C)
structure Den where
  E : ME := fun _ => .bad
  T : MT := fun _ => .bad
  L : ML := fun _ => .bad
  O : MO := fun _ => .bad
  I : MI := fun _ => .bad
  M : MS := fun _ => .bad
def dE (m : ME) : Den := { E := m, T := tVal m }
def bop : BO → D → D → Option D
  | .add => oAddL | .sub => oSub | .mul => oMulT | .div => oDiv | .mod => oMod
def iop : CO → Int → Int → Bool
  | .lt, i, j => decide (i < j)
  | .le, i, j => decide (i ≤ j)
  | .gt, i, j => decide (j < i)
  | .ge, i, j => decide (j ≤ i)
  | _, _, _ => false
def cop : CO → D → D → Option D
  | .lt => oCmp (iop .lt) | .le => oCmp (iop .le) | .gt => oCmp (iop .gt) | .ge => oCmp (iop .ge)
  | .eq => oEqF id | .ne => oEqF (fun b => !b) | .isIn => oIn id | .notIn => oIn (fun b => !b)
def uop : UO → D → Option D
  | .len => oLen | .sum => oSum | .all => oAll | .any => oAny | .tuple => oTuple | .int => oInt | .abs => oAbs | .min => oMinL | .max => oMaxL
def mmop : Bool → D → D → Option D
  | true => oMin2 | false => oMax2
def augf : Bool → Int → Int → Int
  | true => fun i j => i + j | false => fun i j => i - j
def oIsB (f : Bool → Bool) : D → D → Option D
  | .bl b, .bl c => some (.bl (f (decide (b = c))))
  | _, _ => none
theorem u_isB {G : Cn} {f : Bool → Bool} : U2 G .sh (oIsB f) (fun x y H Q => ∃ a b : Bool, x = .bl a ∧ y = .bl b ∧ Q (.bl (f (decide (a = b)))) H) := by
  intro st σ H O v w d e d' Q S hv hw ho q
  cases d with
  | bl b =>
    cases e with
    | bl c =>
      cases ho
      exact ⟨b, c, hv.bl, hw.bl, q _ H O Stp.refl S (.inl (.bl _))⟩
    | _ => cases ho
  | _ => cases e <;> cases ho
def bId (f : Bool) : Bool → Bool := match f with | true => id | false => fun b => !b
def den (φ : Nat → List D → R D) (κ : Nat → D) : C → Den
  | .k d => dE (mK d)
  | .g j => dE (mK (κ j))
  | .v i => dE (mV i)
  | .b i => dE (mV i)
  | .m i => dE (mM i)
  | .bin o a b => dE (m2 (bop o) (den φ κ a).E (den φ κ b).E)
  | .cmp o a b => dE (m2 (cop o) (den φ κ a).E (den φ κ b).E)
  | .isN f a => dE (m1 (oIsN (bId f)) (den φ κ a).E)
  | .isB f a b => dE (m2 (oIsB (bId f)) (den φ κ a).E (den φ κ b).E)
  | .chain o p a b c => dE (mChain (iop o) (iop p) (den φ κ a).E (den φ κ b).E (den φ κ c).E)
  | .neg a => dE (m1 oNeg (den φ κ a).E)
  | .not a => { E := mNot (den φ κ a).E, T := tNot (den φ κ a).T }
  | .and a b => { E := mAnd (den φ κ a).E (den φ κ b).E, T := tAnd (den φ κ a).T (den φ κ b).T }
  | .or a b => { E := mOr (den φ κ a).E (den φ κ b).E, T := tOr (den φ κ a).T (den φ κ b).T }
  | .one a => { E := (den φ κ a).E, T := (den φ κ a).T }
  | .ifx t a b => { E := mIf (den φ κ t).T (den φ κ a).E (den φ κ b).E }
  | .nil => { L := lNil }
  | .cons a b => { L := lCons (den φ κ a).E (den φ κ b).L }
  | .tup l => dE (mTup (den φ κ l).L)
  | .lst l => dE (mLst (den φ κ l).L)
  | .ix a i => dE (m2 oIx (den φ κ a).E (den φ κ i).E)
  | .sl own a lo hi => dE (mSl own (den φ κ a).E (den φ κ lo).O (den φ κ hi).O)
  | .rev own a => dE (m1 (oRev own) (den φ κ a).E)
  | .np => { O := mNo }
  | .pt a => { O := mPart (den φ κ a).E }
  | .c1 f a => dE (m1 (uop f) (den φ κ a).E)
  | .list a => dE (m1 oList (den φ κ a).E)
  | .sorted a => dE (m1 oSort (den φ κ a).E)
  | .isi ts a => dE (m1 (oIsi ts) (den φ κ a).E)
  | .fn j l => dE (mCall (φ j) (den φ κ l).L)
  | .lc own p s c e => dE (mLc (den φ κ s).I p (den φ κ c).T (den φ κ e).E own)
  | .yes => { T := tYesM }
  | .seq a => { I := sSeq (den φ κ a).E }
  | .seqB a => { I := sSeq (den φ κ a).E }
  | .r1 a => { I := sR1 (den φ κ a).E }
  | .r2 a b => { I := sR2 (den φ κ a).E (den φ κ b).E }
  | .zip a b => { I := sZip (den φ κ a).E (den φ κ b).E }
  | .pop i => dE (mPop i)
  | .popAt i a => dE (mPopAt i (den φ κ a).E)
  | .skip => { M := sSkip }
  | .sq a b => { M := sSq (den φ κ a).M (den φ κ b).M }
  | .pass => { M := sSkip }
  | .brk => { M := sBrk }
  | .cnt => { M := sCnt }
  | .ret a => { M := sRet (den φ κ a).E }
  | .retN => { M := sRet (mK .non) }
  | .ifs t a b => { M := sIfS (den φ κ t).T (den φ κ a).M (den φ κ b).M }
  | .asg p a => { M := sAs p (den φ κ a).E }
  | .aso i a => { M := sAo i (den φ κ a).E }
  | .for_ s p b => { M := sFor (den φ κ s).I p (den φ κ b).M }
  | .wh n t b => { M := sWh n (den φ κ t).T (den φ κ b).M }
  | .app i a => { M := sApp i (den φ κ a).E }
  | .ext i a => { M := sExt i (den φ κ a).E }
  | .nev => { M := sNev }
  | .doc => { M := sSkip }
  | .par is l => { M := sPar is (den φ κ l).L }
  | .drp a => { M := sDrp (den φ κ a).E }
  | .fgt ks a => { M := sFgt ks (den φ κ a).M }
  | .mm f a b => dE (m2 (mmop f) (den φ κ a).E (den φ κ b).E)
  | .aug f i a => { M := sAug (augf f) i (den φ κ a).E }
  | .set i k v => { M := sSet i (den φ κ k).E (den φ κ v).E }
  | .enum a => { I := sEnumT (den φ κ a).E }
  | .sset a => dE (m1 oSSet2 (den φ κ a).E)
  | .lset a => dE (m1 oLSet (den φ κ a).E)
  | .dic1 a b => dE (mDic (den φ κ a).E (den φ κ b).E)
  | .cat a b => dE (m2 oCatL (den φ κ a).E (den φ κ b).E)
  | .rep a b => dE (m2 oRepL (den φ κ a).E (den φ κ b).E)
  | .augS f i k v => { M := sAugS (augf f) i (den φ κ k).E (den φ κ v).E }
  | .parSO i j a b => { M := sParSO i j (den φ κ a).E (den φ κ b).E }
  | .parOOS i j k a b c => { M := sParOOS i j k (den φ κ a).E (den φ κ b).E (den φ κ c).E }
  | .parO i j a b => { M := sParO i j (den φ κ a).E (den φ κ b).E }
/-! what a piece of code hands on -/
structure Gm where
  N : List Str
  kd : Nat → Bool
  cons : List Str
  funs : List (Str × Nat × Bool)
def kdc (Γ : Gm) : C → Kd
  | .b _ => .br
  | .m _ => .ow
  | .lst _ => .ow
  | .list _ => .ow
  | .sorted _ => .ow
  | .rep _ _ => .ow
  | .sset _ => .ow
  | .cat _ _ => .ow
  | .sl own _ _ _ => kOf own
  | .rev own _ => kOf own
  | .lc .. => .ow
  | .ifx _ a b => match kdc Γ a with | .ow => (match kdc Γ b with | .ow => .ow | _ => .sh) | _ => .sh
  | .fn j _ => match Γ.funs[j]? with | some (_, _, ro) => kOf ro | none => .sh
  | .one a => kdc Γ a
  | _ => .sh
/-- pure: nothing that is owned is changed -/
def puc : C → Bool
  | .pop _ => false
  | .popAt .. => false
  | .cons a b => puc a && puc b
  | .fn _ l => puc l
  | .seq a => puc a
  | .enum a => puc a
  | _ => true
/-- the slots stay -/
def fixC : C → Bool
  | .m _ => false
  | .pop _ => false
  | .popAt .. => false
  | .bin _ a b => fixC a && fixC b
  | .cmp _ a b => fixC a && fixC b
  | .isN _ a => fixC a
  | .isB _ a b => fixC a && fixC b
  | .chain _ _ a b c => fixC a && fixC b && fixC c
  | .neg a => fixC a
  | .not a => fixC a
  | .and a b => fixC a && fixC b
  | .or a b => fixC a && fixC b
  | .one a => fixC a
  | .ifx t a b => fixC t && fixC a && fixC b
  | .cons a b => fixC a && fixC b
  | .tup l => fixC l
  | .lst l => fixC l
  | .ix a i => fixC a && fixC i
  | .sl _ a lo hi => fixC a && fixC lo && fixC hi
  | .rev _ a => fixC a
  | .pt a => fixC a
  | .c1 _ a => fixC a
  | .list a => fixC a
  | .sset a => fixC a
  | .lset a => fixC a
  | .dic1 a b => fixC a && fixC b
  | .sorted a => fixC a
  | .isi _ a => fixC a
  | .fn _ l => fixC l
  | .lc _ _ s _ _ => fixC s
  | .seq a => fixC a
  | .seqB a => fixC a
  | .r1 a => fixC a
  | .r2 a b => fixC a && fixC b
  | .zip a b => fixC a && fixC b
  | .mm _ a b => fixC a && fixC b
  | .rep a b => fixC a && fixC b
  | .cat a b => fixC a && fixC b
  | .enum a => fixC a
  | _ => true
/-! the slots stay where nothing is moved -/
section
theorem fix_ok {α : Type} {x : α} {st : AS} : (R.ok (x, st)).pall fun p => p.2 = st := rfl
theorem fix1 {op : D → Option D} {m : ME} (h : Fix m) : Fix (m1 op m) := fun st => R.pall_bind (R.pall_mono (fun p e => by
  cases op p.1 with
  | none => trivial
  | some d => exact e) (h st))
theorem fix2 {op : D → D → Option D} {m n : ME} (h : Fix m) (h2 : Fix n) : Fix (m2 op m n) := fun st => R.pall_bind (R.pall_mono (fun p e => R.pall_bind (R.pall_mono (fun q e2 => by
  cases op p.1 q.1 with
  | none => trivial
  | some d => exact e2.trans e) (h2 p.2))) (h st))
theorem fixV {m : ME} (h : Fix m) : Fix (tVal m) := fun st => R.pall_bind (R.pall_mono (fun p e => by
  obtain ⟨p1, p2⟩ := p
  cases p1 <;> first | exact e | trivial) (h st))
def FixD (d : Den) : Prop := Fix d.E ∧ Fix d.T ∧ Fix d.L ∧ Fix d.O ∧ Fix d.I
theorem fix_bad {α : Type} : Fix (fun _ => (R.bad : R (α × AS))) := fun _ => trivial
theorem fixD_E {m : ME} (h : Fix m) : FixD (dE m) := ⟨h, fixV h, fix_bad, fix_bad, fix_bad⟩
theorem fixB {α β : Type} {m : AS → R (α × AS)} {f : α × AS → R (β × AS)} (h : Fix m) (hf : ∀ p, (f p).pall fun q => q.2 = p.2) : Fix (fun st => (m st).bind f) := fun st => R.pall_bind (R.pall_mono (fun p e => R.pall_mono (fun q e2 => e2.trans e) (hf p)) (h st))
theorem pall_bad {α : Type} {p : α → Prop} : (R.bad : R α).pall p := trivial
theorem pall_any {α : Type} {p : α → Prop} (h : ∀ a, p a) : ∀ x : R α, x.pall p
  | .ok a => h a
  | .dr n k => fun d _ => pall_any h (k d)
  | .bad => trivial
theorem fixC_ok (φ : Nat → List D → R D) : ∀ c, fixC c = true → FixD (den φ κ c) := by
  intro c
  induction c with
  | k d => exact fun _ => fixD_E fun st => rfl
  | g j => exact fun _ => fixD_E fun st => rfl
  | v i => exact fun _ => fixD_E fun st => by unfold mV; cases getS st i <;> first | trivial | rfl
  | b i => exact fun _ => fixD_E fun st => by unfold mV; cases getS st i <;> first | trivial | rfl
  | bin o a b iha ihb =>
    intro h
    have h' := Bool.and_eq_true_iff.mp h
    exact fixD_E (fix2 (iha h'.1).1 (ihb h'.2).1)
  | cmp o a b iha ihb =>
    intro h
    have h' := Bool.and_eq_true_iff.mp h
    exact fixD_E (fix2 (iha h'.1).1 (ihb h'.2).1)
  | ix a b iha ihb =>
    intro h
    have h' := Bool.and_eq_true_iff.mp h
    exact fixD_E (fix2 (iha h'.1).1 (ihb h'.2).1)
  | cat a b iha ihb =>
    intro h
    have h' := Bool.and_eq_true_iff.mp h
    exact fixD_E (fix2 (iha h'.1).1 (ihb h'.2).1)
  | rep a b iha ihb =>
    intro h
    have h' := Bool.and_eq_true_iff.mp h
    exact fixD_E (fix2 (iha h'.1).1 (ihb h'.2).1)
  | mm f a b iha ihb =>
    intro h
    have h' := Bool.and_eq_true_iff.mp h
    exact fixD_E (fix2 (iha h'.1).1 (ihb h'.2).1)
  | enum a ih => exact fun h => ⟨fix_bad, fix_bad, fix_bad, fix_bad, fixB (ih h).1 fun p => by obtain ⟨p1, p2⟩ := p; cases p1 <;> first | trivial | rfl⟩
  | isN f a ih => exact fun h => fixD_E (fix1 (ih h).1)
  | isB f a b iha ihb =>
    intro h
    have h' := Bool.and_eq_true_iff.mp h
    exact fixD_E (fix2 (iha h'.1).1 (ihb h'.2).1)
  | neg a ih => exact fun h => fixD_E (fix1 (ih h).1)
  | c1 f a ih => exact fun h => fixD_E (fix1 (ih h).1)
  | list a ih => exact fun h => fixD_E (fix1 (ih h).1)
  | sset a ih => exact fun h => fixD_E (fix1 (ih h).1)
  | lset a ih => exact fun h => fixD_E (fix1 (ih h).1)
  | dic1 a b iha ihb =>
    intro h
    have h' := Bool.and_eq_true_iff.mp h
    refine fixD_E fun st => R.pall_bind (R.pall_mono (fun p e => ?_) ((iha h'.1).1 st))
    obtain ⟨p1, p2⟩ := p
    cases p1 with
    | int i => exact R.pall_bind (R.pall_mono (fun q e2 => e2.trans e) ((ihb h'.2).1 p2))
    | _ => trivial
  | sorted a ih => exact fun h => fixD_E (fix1 (ih h).1)
  | isi ts a ih => exact fun h => fixD_E (fix1 (ih h).1)
  | chain o p a b c iha ihb ihc =>
    intro h
    have h' := Bool.and_eq_true_iff.mp h
    have h2 := Bool.and_eq_true_iff.mp h'.1
    refine fixD_E fun st => R.pall_bind (R.pall_mono (fun x e => R.pall_bind (R.pall_mono (fun y e2 => ?_) ((ihb h2.2).1 x.2))) ((iha h2.1).1 st))
    obtain ⟨x1, x2⟩ := x
    obtain ⟨y1, y2⟩ := y
    cases x1 with
    | int i =>
      cases y1 with
      | int j =>
        show R.pall (match iop o i j with | true => _ | false => _) _
        cases iop o i j with
        | true =>
          refine R.pall_bind (R.pall_mono (fun z e3 => ?_) ((ihc h'.2).1 y2))
          obtain ⟨z1, z2⟩ := z
          cases z1 <;> first | exact (e3.trans e2).trans e | trivial
        | false => exact e2.trans e
      | _ => trivial
    | _ => trivial
  | not a ih =>
    intro h
    refine ⟨fun st => R.pall_bind (R.pall_mono (fun x e => ?_) ((ih h).1 st)), fun st => R.pall_bind (R.pall_mono (fun x e => e) ((ih h).2.1 st)), fix_bad, fix_bad, fix_bad⟩
    obtain ⟨x1, x2⟩ := x
    cases x1 <;> first | exact e | trivial
  | and a b iha ihb =>
    intro h
    have h' := Bool.and_eq_true_iff.mp h
    refine ⟨fun st => R.pall_bind (R.pall_mono (fun x e => ?_) ((iha h'.1).1 st)), fun st => R.pall_bind (R.pall_mono (fun x e => ?_) ((iha h'.1).2.1 st)), fix_bad, fix_bad, fix_bad⟩
    · obtain ⟨x1, x2⟩ := x
      cases x1 with
      | bl c => cases c with
        | true => exact R.pall_mono (fun z e2 => e2.trans e) ((ihb h'.2).1 x2)
        | false => exact e
      | _ => trivial
    · obtain ⟨x1, x2⟩ := x
      cases x1 with
      | true => exact R.pall_mono (fun z e2 => e2.trans e) ((ihb h'.2).2.1 x2)
      | false => exact e
  | or a b iha ihb =>
    intro h
    have h' := Bool.and_eq_true_iff.mp h
    refine ⟨fun st => R.pall_bind (R.pall_mono (fun x e => ?_) ((iha h'.1).1 st)), fun st => R.pall_bind (R.pall_mono (fun x e => ?_) ((iha h'.1).2.1 st)), fix_bad, fix_bad, fix_bad⟩
    · obtain ⟨x1, x2⟩ := x
      cases x1 with
      | bl c => cases c with
        | true => exact e
        | false => exact R.pall_mono (fun z e2 => e2.trans e) ((ihb h'.2).1 x2)
      | _ => trivial
    · obtain ⟨x1, x2⟩ := x
      cases x1 with
      | true => exact e
      | false => exact R.pall_mono (fun z e2 => e2.trans e) ((ihb h'.2).2.1 x2)
  | one a ih => exact fun h => ⟨(ih h).1, (ih h).2.1, fix_bad, fix_bad, fix_bad⟩
  | ifx t a b iht iha ihb =>
    intro h
    have h' := Bool.and_eq_true_iff.mp h
    have h2 := Bool.and_eq_true_iff.mp h'.1
    refine ⟨fun st => R.pall_bind (R.pall_mono (fun x e => ?_) ((iht h2.1).2.1 st)), fix_bad, fix_bad, fix_bad, fix_bad⟩
    obtain ⟨x1, x2⟩ := x
    cases x1 with
    | true => exact R.pall_mono (fun z e2 => e2.trans e) ((iha h2.2).1 x2)
    | false => exact R.pall_mono (fun z e2 => e2.trans e) ((ihb h'.2).1 x2)
  | nil => exact fun _ => ⟨fix_bad, fix_bad, fun st => rfl, fix_bad, fix_bad⟩
  | cons a b iha ihb =>
    intro h
    have h' := Bool.and_eq_true_iff.mp h
    exact ⟨fix_bad, fix_bad, fun st => R.pall_bind (R.pall_mono (fun x e => R.pall_bind (R.pall_mono (fun y e2 => e2.trans e) ((ihb h'.2).2.2.1 x.2))) ((iha h'.1).1 st)), fix_bad, fix_bad⟩
  | tup l ih => exact fun h => fixD_E (fixB (ih h).2.2.1 fun p => by cases (lenOk p.1.length && p.1.all (fun d => !isH d)) <;> first | trivial | rfl)
  | lst l ih => exact fun h => fixD_E (fixB (ih h).2.2.1 fun p => by cases (lenOk p.1.length && p.1.all (fun d => !isH d)) <;> first | trivial | rfl)
  | sl own a lo hi iha ihl ihh =>
    intro h
    have h' := Bool.and_eq_true_iff.mp h
    have h2 := Bool.and_eq_true_iff.mp h'.1
    refine fixD_E fun st => R.pall_bind (R.pall_mono (fun x e => R.pall_bind (R.pall_mono (fun y e2 => R.pall_bind (R.pall_mono (fun z e3 => ?_) ((ihh h'.2).2.2.2.1 y.2))) ((ihl h2.2).2.2.2.1 x.2))) ((iha h2.1).1 st))
    obtain ⟨x1, x2⟩ := x
    cases x1 with
    | lst xs => exact (e3.trans e2).trans e
    | tup xs => cases own with
      | true => trivial
      | false => exact (e3.trans e2).trans e
    | _ => trivial
  | rev own a ih => exact fun h => fixD_E (fix1 (ih h).1)
  | np => exact fun _ => ⟨fix_bad, fix_bad, fix_bad, fun st => rfl, fix_bad⟩
  | pt a ih => exact fun h => ⟨fix_bad, fix_bad, fix_bad, fixB (ih h).1 fun p => by obtain ⟨p1, p2⟩ := p; cases p1 <;> first | trivial | rfl, fix_bad⟩
  | fn j l ih => exact fun h => fixD_E (fixB (ih h).2.2.1 fun p => R.pall_bind (pall_any (fun r => rfl) _))
  | lc own p s c e ihs _ _ => exact fun h => fixD_E (fixB (ihs h).2.2.2.2 fun p => R.pall_bind (pall_any (fun r => rfl) _))
  | yes => exact fun _ => ⟨fix_bad, fun st => rfl, fix_bad, fix_bad, fix_bad⟩
  | seq a ih => exact fun h => ⟨fix_bad, fix_bad, fix_bad, fix_bad, fixB (ih h).1 fun p => by obtain ⟨p1, p2⟩ := p; cases p1 <;> first | trivial | rfl⟩
  | seqB a ih => exact fun h => ⟨fix_bad, fix_bad, fix_bad, fix_bad, fixB (ih h).1 fun p => by obtain ⟨p1, p2⟩ := p; cases p1 <;> first | trivial | rfl⟩
  | r1 a ih =>
    intro h
    refine ⟨fix_bad, fix_bad, fix_bad, fix_bad, fixB (ih h).1 fun p => ?_⟩
    obtain ⟨p1, p2⟩ := p
    cases p1 with
    | int i =>
      show R.pall (match fits62 i with | true => _ | false => _) _
      cases fits62 i <;> first | trivial | rfl
    | _ => trivial
  | r2 a b iha ihb =>
    intro h
    have h' := Bool.and_eq_true_iff.mp h
    refine ⟨fix_bad, fix_bad, fix_bad, fix_bad, fun st => R.pall_bind (R.pall_mono (fun x e => R.pall_bind (R.pall_mono (fun y e2 => ?_) ((ihb h'.2).1 x.2))) ((iha h'.1).1 st))⟩
    obtain ⟨x1, x2⟩ := x
    obtain ⟨y1, y2⟩ := y
    cases x1 with
    | int i =>
      cases y1 with
      | int j =>
        show R.pall (match fits62 i && fits62 j with | true => _ | false => _) _
        cases (fits62 i && fits62 j) <;> first | trivial | exact e2.trans e
      | _ => trivial
    | _ => trivial
  | zip a b iha ihb =>
    intro h
    have h' := Bool.and_eq_true_iff.mp h
    refine ⟨fix_bad, fix_bad, fix_bad, fix_bad, fun st => R.pall_bind (R.pall_mono (fun x e => R.pall_bind (R.pall_mono (fun y e2 => ?_) ((ihb h'.2).1 x.2))) ((iha h'.1).1 st))⟩
    obtain ⟨x1, x2⟩ := x
    obtain ⟨y1, y2⟩ := y
    cases x1 with
    | lst xs => cases y1 <;> first | trivial | exact e2.trans e
    | tup xs => cases y1 <;> first | trivial | exact e2.trans e
    | _ => trivial
  | m i => exact fun h => nomatch h
  | pop i => exact fun h => nomatch h
  | popAt i a _ => exact fun h => nomatch h
  | _ => exact fun _ => ⟨fix_bad, fix_bad, fix_bad, fix_bad, fix_bad⟩
end
end EV
/-! is this tree that text -/
namespace EV
open PySem PySem.Spec PyProof.Rows L2 RZ C8
inductive Tg | e (t : Bool) (x : Expr) | l (xs : List Expr) | o (x : Option Expr) | i (pl : Bool) (tg x : Expr) | s (ro : Bool) (x : Stmt) | b (ro : Bool) (xs : List Stmt)
def okN (x : Str) : Bool := !(x == ("__debug__" : Str)) && !(x == ("__classdict__" : Str))
def visB (sc : Scope) (x : Str) : Bool := (match sc.names.lookup x with | some .local => true | some .cell => true | some .free => true | _ => false) && okN x
def glB (sc : Scope) (x : Str) : Bool := (match sc.names.lookup x with | some .globalImplicit => true | _ => false) && okN x
def locB (sc : Scope) (fn : Str → Bool) (x : Str) : Bool := match sc.names.lookup x with | some .local => true | some .cell => fn x | _ => false
def lcl (sc : Scope) (x : Str) : Bool := match sc.names.lookup x with | some .local => true | _ => false
def noLc : Expr → Bool
  | .ListComp .. => false | .SetComp .. => false | .DictComp .. => false | _ => true
def isBO : Expr → Bool
  | .BoolOp .. => true | _ => false
def litB : D → Const → Bool
  | .int i, .int j => decide (i = j)
  | .bl b, .bool c => decide (b = c)
  | .non, .none => true
  | .str s, .str z => decide (s = z) && strOkB s
  | _, _ => false
def bopB : BO → Operator → Bool
  | .add, .Add => true | .sub, .Sub => true | .mul, .Mult => true | .div, .FloorDiv => true | .mod, .Mod => true | _, _ => false
def copB : CO → CmpOp → Bool
  | .lt, .Lt => true | .le, .LtE => true | .gt, .Gt => true | .ge, .GtE => true | .eq, .Eq => true | .ne, .NotEq => true | .isIn, .In => true | .notIn, .NotIn => true | _, _ => false
def icopB : CO → CmpOp → Bool
  | .lt, .Lt => true | .le, .LtE => true | .gt, .Gt => true | .ge, .GtE => true | _, _ => false
def isOp : Bool → CmpOp → Bool
  | true, .Is => true | false, .IsNot => true | _, _ => false
def unm : UO → Str
  | .len => "len" | .sum => "sum" | .all => "all" | .any => "any" | .tuple => "tuple" | .int => "int" | .abs => "abs" | .min => "min" | .max => "max"
def mmn : Bool → Str
  | true => "min" | false => "max"
def nbr (Γ : Gm) (c : C) : Bool := match kdc Γ c with | .br => false | _ => true
def isOw (Γ : Gm) (c : C) : Bool := match kdc Γ c with | .ow => true | _ => false
def isYes : C → Bool
  | .yes => true | _ => false
def onE (tg : Tg) (f : Expr → Bool) : Bool := match tg with | .e _ x => f x | _ => false
def onV (tg : Tg) (f : Expr → Bool) : Bool := match tg with | .e false x => f x | _ => false
def onS (tg : Tg) (f : Bool → Stmt → Bool) : Bool := match tg with | .s ro x => f ro x | _ => false
def nmB (N : List Str) (i : Nat) (x : Str) : Bool := decide (N[i]? = some x)
def ownP (N : List Str) (own : List Nat) : List (Str × Nat) := own.map fun i => ((N[i]?).getD "", i)
def chkP (Γ : Gm) (sc : Scope) (fn : Str → Bool) : Pat → Expr ⊕ List Expr → Bool
  | .nm i, t => (match t with | .inl (.Name x _) => nmB Γ.N i x && locB sc fn x && !Γ.kd i | _ => false)
  | .tp p, t => (match t with | .inl (.Tuple es _ _) => chkP Γ sc fn p (.inr es) && decide (plen p = some es.length) && es.all notStar | _ => false)
  | .nil, t => (match t with | .inr [] => true | _ => false)
  | .cons p q, t => (match t with | .inr (e :: es) => chkP Γ sc fn p (.inl e) && chkP Γ sc fn q (.inr es) && notStar e | _ => false)
def notTup : Expr → Bool
  | .Tuple es _ _ => !(es.length == 2 || es.length == 3) || es.all (foldedForSure 8)
  | _ => true
def anyN (sc : Scope) (t : Expr) : Bool := match t with | .Tuple ts _ _ => ts.any (fun x => match x with | .Name n _ => !(lcl sc n) | _ => true) | _ => false
def swN (sc : Scope) (t y : Expr) : Bool := notTup y || anyN sc t
def parB (Γ : Gm) (sc : Scope) (is : List Nat) (ts : List Expr) (es : List Expr) : Bool := (match is, ts, es with
  | [i, j], [.Name x px, .Name y py], [a, b] => nmB Γ.N i x && nmB Γ.N j y && lcl sc x && lcl sc y && !Γ.kd i && !Γ.kd j && !(i == j) && !(x == y) && !(y == x) && py.line == px.line
  | [i, j, k], [.Name x px, .Name y py, .Name z pz], [a, b, c] => nmB Γ.N i x && nmB Γ.N j y && nmB Γ.N k z && lcl sc x && lcl sc y && lcl sc z && !Γ.kd i && !Γ.kd j && !Γ.kd k && !(i == j) && !(i == k) && !(j == k)
     && decide ([x, y, z].eraseDups.length = 3) && py.line == px.line && pz.line == px.line
  | _, _, _ => false) && (match sc.kind with | .function => true | _ => false) && es.all notStar && !(es.all (foldedForSure 8)) && !(es.all (constantsAlone 8))
def chk (Γ : Gm) : C → Scope → (Str → Bool) → Tg → Bool
  | .k d, sc, fn, tg => onE tg fun x => match x with | .Constant c _ _ => litB d c | _ => false
  | .g j, sc, fn, tg => onE tg fun x => match x with | .Name x _ => decide (Γ.cons[j]? = some x) && glB sc x | _ => false
  | .v i, sc, fn, tg => onE tg fun x => match x with | .Name x _ => nmB Γ.N i x && visB sc x && !Γ.kd i | _ => false
  | .b i, sc, fn, tg => onE tg fun x => match x with | .Name x _ => nmB Γ.N i x && visB sc x && Γ.kd i | _ => false
  | .m i, sc, fn, tg => onE tg fun x => match x with | .Name x _ => nmB Γ.N i x && visB sc x && Γ.kd i | _ => false
  | .bin o a b, sc, fn, tg => onE tg fun x => match x with | .BinOp y op z _ => bopB o op && puc a && puc b && chk Γ a sc fn (.e false y) && chk Γ b sc fn (.e false z) | _ => false
  | .cmp o a b, sc, fn, tg => onE tg fun x => match x with | .Compare y [op] [z] _ => copB o op && !behindInMarks op z && puc a && puc b && chk Γ a sc fn (.e false y) && chk Γ b sc fn (.e false z) | _ => false
  | .isN f a, sc, fn, tg => onE tg fun x => match x with | .Compare y [op] [.Constant .none _ _] _ => isOp f op && puc a && chk Γ a sc fn (.e false y) | _ => false
  | .isB f a b, sc, fn, tg => onE tg fun x => match x with | .Compare y [op] [z] _ => isOp f op && !behindInMarks op z && puc a && puc b && chk Γ a sc fn (.e false y) && chk Γ b sc fn (.e false z) | _ => false
  | .chain o p a b c, sc, fn, tg => onE tg fun x => match x with
    | .Compare y [op, op'] [z, w] _ => icopB o op && icopB p op' && !lastMarks [op, op'] [z, w] && puc a && puc b && puc c && chk Γ a sc fn (.e false y) && chk Γ b sc fn (.e false z) && chk Γ c sc fn (.e false w)
    | _ => false
  | .neg a, sc, fn, tg => onE tg fun x => match x with | .UnaryOp .USub y _ => puc a && chk Γ a sc fn (.e false y) | _ => false
  | .not a, sc, fn, tg => match tg with
    | .e false (.UnaryOp .Not y _) => puc a && nbr Γ a && chk Γ a sc fn (.e false y)
    | .e true (.UnaryOp .Not y _) => chk Γ a sc fn (.e true y)
    | _ => false
  | .and a b, sc, fn, tg => match tg with
    | .e false (.BoolOp .And (y :: z :: r) p) => puc a && nbr Γ a && puc b && nbr Γ b && chk Γ a sc fn (.e false y) && chk Γ b sc fn (.e false (.BoolOp .And (z :: r) p))
    | .e true (.BoolOp .And (y :: z :: r) p) => chk Γ a sc fn (.e true y) && chk Γ b sc fn (.e true (.BoolOp .And (z :: r) p))
    | _ => false
  | .or a b, sc, fn, tg => match tg with
    | .e false (.BoolOp .Or (y :: z :: r) p) => puc a && nbr Γ a && puc b && nbr Γ b && chk Γ a sc fn (.e false y) && chk Γ b sc fn (.e false (.BoolOp .Or (z :: r) p))
    | .e true (.BoolOp .Or (y :: z :: r) p) => chk Γ a sc fn (.e true y) && chk Γ b sc fn (.e true (.BoolOp .Or (z :: r) p))
    | _ => false
  | .one a, sc, fn, tg => match tg with
    | .e false (.BoolOp _ [y] _) => puc a && chk Γ a sc fn (.e false y)
    | .e true (.BoolOp _ [y] _) => chk Γ a sc fn (.e true y)
    | _ => false
  | .ifx t a b, sc, fn, tg => onV tg fun x => match x with | .IfExp w y z _ => puc a && nbr Γ a && puc b && nbr Γ b && chk Γ t sc fn (.e true w) && chk Γ a sc fn (.e false y) && chk Γ b sc fn (.e false z) | _ => false
  | .nil, sc, fn, tg => match tg with | .l [] => true | _ => false
  | .cons a b, sc, fn, tg => match tg with | .l (y :: r) => notStar y && nbr Γ a && chk Γ a sc fn (.e false y) && chk Γ b sc fn (.l r) | _ => false
  | .tup l, sc, fn, tg => onE tg fun x => match x with | .Tuple es _ _ => puc l && chk Γ l sc fn (.l es) | _ => false
  | .lst l, sc, fn, tg => onE tg fun x => match x with | .List es _ => puc l && chk Γ l sc fn (.l es) | _ => false
  | .ix a i, sc, fn, tg => onE tg fun x => match x with | .Subscript y z _ => notSlice z && puc a && puc i && chk Γ a sc fn (.e false y) && chk Γ i sc fn (.e false z) | _ => false
  | .sl own a lo hi, sc, fn, tg => onE tg fun x => match x with | .Subscript y (.Slice l h none _) _ => puc a && chk Γ a sc fn (.e false y) && chk Γ lo sc fn (.o l) && chk Γ hi sc fn (.o h) | _ => false
  | .rev own a, sc, fn, tg => onE tg fun x => match x with | .Subscript y (.Slice none none (some (.UnaryOp .USub (.Constant (.int 1) _ _) _)) _) _ => puc a && chk Γ a sc fn (.e false y) | _ => false
  | .np, sc, fn, tg => match tg with | .o none => true | _ => false
  | .pt a, sc, fn, tg => match tg with | .o (some y) => puc a && chk Γ a sc fn (.e false y) | _ => false
  | .c1 f a, sc, fn, tg => onE tg fun x => match x with | .Call (.Name n _) [y] [] _ => decide (n = unm f) && glB sc n && notStar y && puc a && chk Γ a sc fn (.e false y) | _ => false
  | .list a, sc, fn, tg => onE tg fun x => match x with | .Call (.Name n _) [y] [] _ => decide (n = "list") && glB sc n && notStar y && puc a && chk Γ a sc fn (.e false y) | _ => false
  | .sorted a, sc, fn, tg => onE tg fun x => match x with | .Call (.Name n _) [y] [] _ => decide (n = "sorted") && glB sc n && notStar y && puc a && chk Γ a sc fn (.e false y) | _ => false
  | .isi ts a, sc, fn, tg => onE tg fun x => match x with
    | .Call (.Name n _) [y, .Name m _] [] _ => (match ts with | [t] => decide (n = "isinstance") && glB sc n && decide (m = t.name) && glB sc m && notStar y && puc a && chk Γ a sc fn (.e false y) | _ => false)
    | .Call (.Name n _) [y, .Tuple [.Name m _, .Name k _] _ _] [] _ => (match ts with | [t, u] => decide (n = "isinstance") && glB sc n && decide (m = t.name) && glB sc m && decide (k = u.name) && glB sc k && notStar y && puc a && chk Γ a sc fn (.e false y) | _ => false)
    | _ => false
  | .fn j l, sc, fn, tg => match tg with
    | .e t (.Call (.Name n _) (y :: es) [] _) => (match Γ.funs[j]? with
      | some (x, k, ro) => decide (n = x) && decide (k = (y :: es).length) && glB sc n && (y :: es).all notStar && (!t || puc l) && chk Γ l sc fn (.l (y :: es))
      | none => false)
    | _ => false
  | .lc own p s c e, sc, fn, tg => onE tg fun x => match x with
    | .ListComp elt [⟨tgx, iter, ifs, 0⟩] scope _ => blkC Γ.N sc scope (ownP Γ.N own) && notSet iter && puc s && chk Γ s sc fn (.i true tgx iter) && chkP Γ (relS scope sc) (fun x => scope.names.lookup x == some .cell) p (.inl tgx)
      && (match ifs with | [] => isYes c | [z] => chk Γ c (relS scope sc) (fun x => scope.names.lookup x == some .cell) (.e true z) | _ => false)
      && fixC c && fixC e && puc e && nbr Γ e && chk Γ e (relS scope sc) (fun x => scope.names.lookup x == some .cell) (.e false elt)
      && (pslots p).all (fun j => decide (j ∈ own)) && own.all (fun j => !Γ.kd j)
    | _ => false
  | .yes, sc, fn, tg => false
  | .seq a, sc, fn, tg => match tg with | .i _ _ x => nbr Γ a && chk Γ a sc fn (.e false x) | _ => false
  | .seqB a, sc, fn, tg => match tg with | .i true _ x => puc a && chk Γ a sc fn (.e false x) | _ => false
  | .r1 a, sc, fn, tg => match tg with | .i _ _ (.Call (.Name n _) [y] [] _) => decide (n = "range") && glB sc n && notStar y && puc a && nbr Γ a && chk Γ a sc fn (.e false y) | _ => false
  | .r2 a b, sc, fn, tg => match tg with | .i _ _ (.Call (.Name n _) [y, z] [] _) => decide (n = "range") && glB sc n && notStar y && notStar z && puc a && nbr Γ a && puc b && nbr Γ b && chk Γ a sc fn (.e false y) && chk Γ b sc fn (.e false z) | _ => false
  | .zip a b, sc, fn, tg => match tg with | .i _ (.Tuple _ _ _) (.Call (.Name n _) [y, z] [] _) => decide (n = "zip") && glB sc n && notStar y && notStar z && puc a && nbr Γ a && puc b && nbr Γ b && chk Γ a sc fn (.e false y) && chk Γ b sc fn (.e false z) | _ => false
  | .pop i, sc, fn, tg => match tg with
    | .e false (.Call (.Attribute (.Name n _) m ap) [] [] cp) => decide (m = "pop") && (ap.endLine == cp.line) && nmB Γ.N i n && visB sc n && Γ.kd i
    | _ => false
  | .mm f a b, sc, fn, tg => onE tg fun x => match x with
    | .Call (.Name n _) [y, z] [] _ => decide (n = mmn f) && glB sc n && notStar y && notStar z && puc a && puc b && chk Γ a sc fn (.e false y) && chk Γ b sc fn (.e false z)
    | _ => false
  | .aug f i a, sc, fn, tg => onS tg fun ro x => match x with
    | .AugAssign (.Name n _) op y _ => (match f, op with | true, .Add => true | false, .Sub => true | _, _ => false) && nmB Γ.N i n && locB sc fn n && !Γ.kd i && nbr Γ a && chk Γ a sc fn (.e false y)
    | _ => false
  | .set i k v, sc, fn, tg => onS tg fun ro x => match x with
    | .Assign [.Subscript (.Name n _) z _] y _ => nmB Γ.N i n && visB sc n && Γ.kd i && notSlice z && noLc y && nbr Γ v && puc k && nbr Γ k && chk Γ v sc fn (.e false y) && chk Γ k sc fn (.e false z)
    | _ => false
  | .rep a b, sc, fn, tg => onE tg fun x => match x with | .BinOp y .Mult z _ => isOw Γ a && puc a && puc b && chk Γ a sc fn (.e false y) && chk Γ b sc fn (.e false z) | _ => false
  | .augS f i k v, sc, fn, tg => onS tg fun ro x => match x with
    | .AugAssign (.Subscript (.Name n _) z _) op y _ => (match f, op with | true, .Add => true | false, .Sub => true | _, _ => false) && nmB Γ.N i n && visB sc n && Γ.kd i && puc k && nbr Γ k && puc v && nbr Γ v && chk Γ k sc fn (.e false z) && chk Γ v sc fn (.e false y) && notSlice z
    | _ => false
  | .parSO i j a b, sc, fn, tg => onS tg fun ro x => match x with
    | .Assign [.Tuple [.Name n p, .Name m q] _ _] (.Tuple [y, z] _ _) _ => nmB Γ.N i n && nmB Γ.N j m && lcl sc n && lcl sc m && !Γ.kd i && Γ.kd j && !(i == j) && !(n == m) && !(m == n) && q.line == p.line && (match sc.kind with | .function => true | _ => false)
        && [y, z].all notStar && !([y, z].all (foldedForSure 8)) && !([y, z].all (constantsAlone 8)) && nbr Γ a && isOw Γ b && puc b && chk Γ a sc fn (.e false y) && chk Γ b sc fn (.e false z)
    | _ => false
  | .parOOS i j k a b c, sc, fn, tg => onS tg fun ro x => match x with
    | .Assign [.Tuple [.Name n p, .Name m q, .Name o r] _ _] (.Tuple [y, z, w] _ _) _ => nmB Γ.N i n && nmB Γ.N j m && nmB Γ.N k o && lcl sc n && lcl sc m && lcl sc o && Γ.kd i && Γ.kd j && !Γ.kd k && !(i == j) && !(i == k) && !(j == k)
        && decide ([n, m, o].eraseDups.length = 3) && q.line == p.line && r.line == p.line && (match sc.kind with | .function => true | _ => false)
        && [y, z, w].all notStar && !([y, z, w].all (foldedForSure 8)) && !([y, z, w].all (constantsAlone 8)) && isOw Γ a && isOw Γ b && puc b && nbr Γ c && puc c && chk Γ a sc fn (.e false y) && chk Γ b sc fn (.e false z) && chk Γ c sc fn (.e false w)
    | _ => false
  | .cat a b, sc, fn, tg => onE tg fun x => match x with | .BinOp y .Add z _ => puc a && puc b && chk Γ a sc fn (.e false y) && chk Γ b sc fn (.e false z) | _ => false
  | .sset a, sc, fn, tg => onE tg fun x => match x with | .Call (.Name n _) [.Call (.Name m _) [y] [] _] [] _ => decide (n = "sorted") && decide (m = "set") && glB sc n && glB sc m && notStar y && puc a && chk Γ a sc fn (.e false y) | _ => false
  | .lset a, sc, fn, tg => onE tg fun x => match x with | .Call (.Name n _) [.Call (.Name m _) [y] [] _] [] _ => decide (n = "len") && decide (m = "set") && glB sc n && glB sc m && notStar y && puc a && chk Γ a sc fn (.e false y) | _ => false
  | .dic1 k v, sc, fn, tg => onE tg fun x => match x with | .Dict [some y] [z] _ => puc k && nbr Γ k && puc v && nbr Γ v && chk Γ k sc fn (.e false y) && chk Γ v sc fn (.e false z) | _ => false
  | .enum a, sc, fn, tg => match tg with | .i _ (.Tuple _ _ _) (.Call (.Name n _) [y] [] _) => decide (n = "enumerate") && glB sc n && notStar y && nbr Γ a && chk Γ a sc fn (.e false y) | _ => false
  | .parO i j a b, sc, fn, tg => onS tg fun ro x => match x with
    | .Assign [.Tuple [.Name n p, .Name m q] _ _] (.Tuple [y, z] _ _) _ => nmB Γ.N i n && nmB Γ.N j m && lcl sc n && lcl sc m && Γ.kd i && Γ.kd j && !(i == j) && !(n == m) && !(m == n) && q.line == p.line && (match sc.kind with | .function => true | _ => false)
        && [y, z].all notStar && !([y, z].all (foldedForSure 8)) && !([y, z].all (constantsAlone 8)) && isOw Γ a && isOw Γ b && puc b && chk Γ a sc fn (.e false y) && chk Γ b sc fn (.e false z)
    | _ => false
  | .popAt i a, sc, fn, tg => match tg with
    | .e false (.Call (.Attribute (.Name n _) m ap) [y] [] cp) => decide (m = "pop") && (ap.endLine == cp.line) && nmB Γ.N i n && visB sc n && Γ.kd i && notStar y && nbr Γ a && chk Γ a sc fn (.e false y)
    | _ => false
  | .skip, sc, fn, tg => match tg with | .b _ [] => true | _ => false
  | .sq a b, sc, fn, tg => match tg with | .b ro (s :: r) => chk Γ a sc fn (.s ro s) && chk Γ b sc fn (.b ro r) | _ => false
  | .pass, sc, fn, tg => onS tg fun ro x => match x with | .Pass _ => true | _ => false
  | .brk, sc, fn, tg => onS tg fun ro x => match x with | .Break _ => true | _ => false
  | .cnt, sc, fn, tg => onS tg fun ro x => match x with | .Continue _ => true | _ => false
  | .ret a, sc, fn, tg => onS tg fun ro x => match x with | .Return (some y) _ => (match ro with | true => isOw Γ a | false => nbr Γ a) && chk Γ a sc fn (.e false y) | _ => false
  | .retN, sc, fn, tg => onS tg fun ro x => match x with | .Return none _ => !ro | _ => false
  | .ifs t a b, sc, fn, tg => onS tg fun ro x => match x with | .If w y z _ => chk Γ t sc fn (.e true w) && chk Γ a sc fn (.b ro y) && chk Γ b sc fn (.b ro z) | _ => false
  | .asg p a, sc, fn, tg => onS tg fun ro x => match x with
    | .Assign [t] y _ => nbr Γ a && chk Γ a sc fn (.e false y) && (match p with
      | .nm i => (match t with | .Name n _ => nmB Γ.N i n && locB sc fn n && !Γ.kd i | _ => false)
      | .tp q => chkP Γ sc fn (.tp q) (.inl t) && swN sc t y
      | _ => false)
    | _ => false
  | .aso i a, sc, fn, tg => onS tg fun ro x => match x with | .Assign [.Name n _] y _ => nmB Γ.N i n && locB sc fn n && Γ.kd i && isOw Γ a && chk Γ a sc fn (.e false y) | _ => false
  | .for_ s p b, sc, fn, tg => onS tg fun ro x => match x with | .For t iter body [] _ => notSet iter && chk Γ s sc fn (.i false t iter) && chkP Γ sc fn p (.inl t) && chk Γ b sc fn (.b ro body) | _ => false
  | .wh n t b, sc, fn, tg => onS tg fun ro x => match x with | .While w body [] _ => chk Γ t sc fn (.e true w) && chk Γ b sc fn (.b ro body) | _ => false
  | .app i a, sc, fn, tg => onS tg fun ro x => match x with
    | .Expr (.Call (.Attribute (.Name n _) m ap) [y] [] cp) _ => decide (m = "append") && (ap.endLine == cp.line) && nmB Γ.N i n && visB sc n && Γ.kd i && notStar y && nbr Γ a && chk Γ a sc fn (.e false y)
    | _ => false
  | .ext i a, sc, fn, tg => onS tg fun ro x => match x with
    | .Expr (.Call (.Attribute (.Name n _) m ap) [y] [] cp) _ => decide (m = "extend") && (ap.endLine == cp.line) && nmB Γ.N i n && visB sc n && Γ.kd i && notStar y && isOw Γ a && chk Γ a sc fn (.e false y)
    | _ => false
  | .nev, sc, fn, tg => match tg with | .s _ _ => true | .b _ _ => true | _ => false
  | .fgt ks a, sc, fn, tg => match tg with | .s ro x => chk Γ a sc fn (.s ro x) | .b ro xs => chk Γ a sc fn (.b ro xs) | _ => false
  | .doc, sc, fn, tg => onS tg fun ro x => match x with | .Expr (.Constant (.str _) _ _) _ => true | _ => false
  | .par is l, sc, fn, tg => onS tg fun ro x => match x with | .Assign [.Tuple ts _ _] (.Tuple es _ _) _ => parB Γ sc is ts es && chk Γ l sc fn (.l es) | _ => false
  | .drp a, sc, fn, tg => onS tg fun ro x => match x with | .Expr y _ => noLc y && nbr Γ a && chk Γ a sc fn (.e false y) | _ => false
end EV
/-! what a checked tree gives -/
namespace EV
open PySem PySem.Spec PyProof.Rows L2 RZ C8
def bltB (x : Str) : Bool := x == ("len" : Str) || x == ("sum" : Str) || x == ("all" : Str) || x == ("any" : Str) || x == ("tuple" : Str) || x == ("int" : Str) || x == ("abs" : Str) || x == ("list" : Str) || x == ("sorted" : Str) || x == ("isinstance" : Str) || x == ("bool" : Str) || x == ("str" : Str) || x == ("dict" : Str) || x == ("range" : Str) || x == ("zip" : Str) || x == ("min" : Str) || x == ("max" : Str) || x == ("enumerate" : Str) || x == ("set" : Str)
structure XO (Γ : Gm) (κ : Nat → D) (φ : Nat → List D → R D) (lvl : Nat) (G : Cn) (sc : Scope) (fn : Str → Bool) (X : Cx) : Prop where
  N : X.N = Γ.N
  sc : X.env.scope = sc
  fn : X.fn = fn
  calm : X.calm = true
  K : X.K = G.K
  kd : G.kd = Γ.kd
  nd : Γ.N.Nodup
  room : Room lvl X.A
  mg : ∀ x, bltB x = true → X.mg x = none
  cal : ∀ j x n ro, Γ.funs[j]? = some (x, n, ro) → Cal X.prog X.w X.K X.mg X.base lvl x (SpE G.K n ro (φ j)) []
  con : ∀ j x, Γ.cons[j]? = some x → ∃ u v, X.mg x = some u ∧ RelV v u ∧ ∀ H F, Sh G.K H F v (κ j)
  xe : X.xe = fun _ _ => False
structure PEA (X : Cx) (x : Expr) (t : TE) : Prop where
  pe : PE X x t
  asg : ∀ {i : Nat} {y : Str} {py spos : Pos}, X.N.Nodup → X.N[i]? = some y → L2.Loc X.env.scope y → (X.fn y = true ∨ X.env.scope.names.lookup y = some .local) → PS X (.Assign [.Name y py] x spos) (tAsg t (gName i))
theorem PEA.weak {X : Cx} {e : Expr} {t t' : TE} (h : PEA X e t) (w : ∀ σ H Q, t' σ H Q → t σ H Q) : PEA X e t' := ⟨PE.weak h.pe w, fun a b c d => PS.weak (h.asg a b c d) fun D σ H q => w _ _ _ q⟩
theorem sw_no {x : Expr} {t : Option Expr} {l : Nat} {env : Env} (h : noLc x = true) : swapsWith x t l env = pure false := by
  cases x <;> first | rfl | cases h
theorem PEA.of {X : Cx} {x : Expr} {t : TE} (h : PE X x t) (hn : noLc x = true) : PEA X x t := ⟨h, fun a b c d => ps_set a b c h (sw_no hn) d⟩
def Snd (Γ : Gm) (φ : Nat → List D → R D) (κ : Nat → D) (X : Cx) (G : Cn) (c : C) : Tg → Prop
  | .e false x => PEA X x (T G (kdc Γ c) (puc c) (den φ κ c).E)
  | .e true x => PT X x (TB G true (den φ κ c).T) ∧ (isBO x = true → PW X x (TB G true (den φ κ c).T))
  | .l xs => PA X xs (TL G (puc c) (den φ κ c).L)
  | .o x => PO X x (TOp G (den φ κ c).O)
  | .i pl tg x => PI X tg x (TSrc G (puc c) pl (den φ κ c).I)
  | .s ro x => PS X x (TSm G ro (den φ κ c).M)
  | .b ro xs => PSs X xs (TSm G ro (den φ κ c).M)
section
variable {Γ : Gm} {φ : Nat → List D → R D} {κ : Nat → D} {X : Cx} {G : Cn} {c : C} {pu : Bool} {k : Kd}
theorem fsh {x : Expr} {m : ME} (h : PE X x (T G .sh true m)) (hn : noLc x = true) (hp : plainT x = true) (hb : isBO x = false) {tg : Tg} (hd : den φ κ c = dE m) (hk : kdc Γ c = .sh) (hu : puc c = true) (b : Bool) (ht : tg = .e b x) : Snd Γ φ κ X G c tg := by
  subst ht
  cases b with
  | false =>
    show PEA X x (T G (kdc Γ c) (puc c) (den φ κ c).E)
    rw [hd, hk, hu]
    exact .of h hn
  | true =>
    refine ⟨?_, fun z => by rw [hb] at z; cases z⟩
    rw [hd]
    exact t_val (T.br_of_sh h) hp
theorem fbr {x : Expr} {m : ME} (h : PE X x (T G .br true m)) (hn : noLc x = true) (hp : plainT x = true) (hb : isBO x = false) {tg : Tg} (hd : den φ κ c = dE m) (hk : kdc Γ c = .br) (hu : puc c = true) (b : Bool) (ht : tg = .e b x) : Snd Γ φ κ X G c tg := by
  subst ht
  cases b with
  | false =>
    show PEA X x (T G (kdc Γ c) (puc c) (den φ κ c).E)
    rw [hd, hk, hu]
    exact .of h hn
  | true =>
    refine ⟨?_, fun z => by rw [hb] at z; cases z⟩
    rw [hd]
    exact t_val h hp
theorem fow {x : Expr} {m : ME} (h : PE X x (T G .ow true m)) (hn : noLc x = true) (hp : plainT x = true) (hb : isBO x = false) {tg : Tg} (hd : den φ κ c = dE m) (hk : kdc Γ c = .ow) (hu : puc c = true) (b : Bool) (ht : tg = .e b x) : Snd Γ φ κ X G c tg := by
  subst ht
  cases b with
  | false =>
    show PEA X x (T G (kdc Γ c) (puc c) (den φ κ c).E)
    rw [hd, hk, hu]
    exact .of h hn
  | true =>
    refine ⟨?_, fun z => by rw [hb] at z; cases z⟩
    rw [hd]
    exact t_val (T.br_of_sh (T.sh_of_ow h)) hp
theorem f2 {x : Expr} {m : ME} (h : PE X x (T G .sh true m)) (ht : PT X x (TB G true (tVal m))) (hn : noLc x = true) (hb : isBO x = false) {tg : Tg} (hd : den φ κ c = dE m) (hk : kdc Γ c = .sh) (hu : puc c = true) (b : Bool) (hq : tg = .e b x) : Snd Γ φ κ X G c tg := by
  subst hq
  cases b with
  | false =>
    show PEA X x (T G (kdc Γ c) (puc c) (den φ κ c).E)
    rw [hd, hk, hu]
    exact .of h hn
  | true =>
    refine ⟨?_, fun z => by rw [hb] at z; cases z⟩
    rw [hd]
    exact ht
theorem toSh {x : Expr} {m : ME} (hn : nbr Γ c = true) (h : PE X x (T G (kdc Γ c) pu m)) : PE X x (T G .sh pu m) := by
  unfold nbr at hn
  split at hn
  · cases hn
  · cases e : kdc Γ c with
    | sh => rw [e] at h; exact h
    | ow => rw [e] at h; exact T.sh_of_ow h
    | br => exact absurd e (by assumption)
theorem toBr {x : Expr} {m : ME} (h : PE X x (T G (kdc Γ c) pu m)) : PE X x (T G .br pu m) := by
  cases e : kdc Γ c with
  | sh => rw [e] at h; exact T.br_of_sh h
  | ow => rw [e] at h; exact T.br_of_sh (T.sh_of_ow h)
  | br => rw [e] at h; exact h
theorem toOw {x : Expr} {m : ME} (hn : isOw Γ c = true) (h : PE X x (T G (kdc Γ c) pu m)) : PE X x (T G .ow pu m) := by
  unfold isOw at hn
  split at hn
  · rename_i e; rw [e] at h; exact h
  · cases hn
theorem peaSh {x : Expr} {m : ME} (hn : nbr Γ c = true) (h : PEA X x (T G (kdc Γ c) pu m)) : PEA X x (T G .sh pu m) := by
  unfold nbr at hn
  split at hn
  · cases hn
  · cases e : kdc Γ c with
    | sh => rw [e] at h; exact h
    | ow =>
      rw [e] at h
      exact h.weak fun σ H Q q => by
        obtain ⟨st, O, S, q⟩ := q
        refine ⟨st, O, S, R.all_mono (fun p q v H' O' sp S' vr => ?_) q⟩
        obtain ⟨a, rfl, ⟨ho, ds, vs, e1, e2, e3⟩, hn⟩ := vr
        refine q _ H' (fun b => O' b ∧ b ≠ a) sp.give (S'.give hn) ?_
        show ShR _ _ _ _ _ _
        rw [e1]
        exact .inl (.lst (.inl e2) (fun z => z.elim (fun z => S'.bo a z ho) fun z => z.2 rfl) (e3.mono fun c z => z.elim .inl fun z => .inr z.1))
    | br => exact absurd e (by assumption)
theorem peaOw {x : Expr} {m : ME} (hn : isOw Γ c = true) (h : PEA X x (T G (kdc Γ c) pu m)) : PEA X x (T G .ow pu m) := by
  unfold isOw at hn
  split at hn
  · rename_i e; rw [e] at h; exact h
  · cases hn
end
section
variable {Γ : Gm} {φ : Nat → List D → R D} {κ : Nat → D} {X : Cx} {G : Cn} {lvl : Nat} {sc : Scope} {fn : Str → Bool}
theorem okN_db {x : Str} (h : okN x = true) : (x == ("__debug__" : Str)) = false ∧ (x == ("__classdict__" : Str)) = false := by
  unfold okN at h
  simpa using h
theorem XO.vis (X0 : XO Γ κ φ lvl G sc fn X) {x : Str} (h : visB sc x = true) : Vis X.env.scope x ∧ (x == ("__debug__" : Str)) = false ∧ (x == ("__classdict__" : Str)) = false := by
  unfold visB at h
  have h' := Bool.and_eq_true_iff.mp h
  refine ⟨?_, okN_db h'.2⟩
  have h1 := h'.1
  rw [X0.sc]
  split at h1
  · exact .inl (by assumption)
  · exact .inr (.inl (by assumption))
  · exact .inr (.inr (by assumption))
  · cases h1
theorem XO.gl (X0 : XO Γ κ φ lvl G sc fn X) {x : Str} (h : glB sc x = true) : Gl X x ∧ (x == ("__debug__" : Str)) = false := by
  unfold glB at h
  have h' := Bool.and_eq_true_iff.mp h
  refine ⟨?_, (okN_db h'.2).1⟩
  have h1 := h'.1
  show X.env.scope.names.lookup x = _
  rw [X0.sc]
  split at h1
  · assumption
  · cases h1
theorem XO.loc (X0 : XO Γ κ φ lvl G sc fn X) {x : Str} (h : locB sc fn x = true) : L2.Loc X.env.scope x ∧ (X.fn x = true ∨ X.env.scope.names.lookup x = some .local) := by
  unfold locB at h
  unfold L2.Loc
  rw [X0.sc, X0.fn]
  split at h
  · exact ⟨.inl (by assumption), .inr (by assumption)⟩
  · exact ⟨.inr (by assumption), .inl h⟩
  · cases h
theorem XO.lcl (X0 : XO Γ κ φ lvl G sc fn X) {x : Str} (h : EV.lcl sc x = true) : X.env.scope.names.lookup x = some .local := by
  unfold EV.lcl at h
  rw [X0.sc]
  split at h
  · assumption
  · cases h
theorem XO.nm (X0 : XO Γ κ φ lvl G sc fn X) {i : Nat} {x : Str} (h : nmB Γ.N i x = true) : X.N[i]? = some x := by
  rw [X0.N]
  exact of_decide_eq_true h
theorem XO.nd' (X0 : XO Γ κ φ lvl G sc fn X) : X.N.Nodup := by
  rw [X0.N]
  exact X0.nd
theorem XO.k1 (X0 : XO Γ κ φ lvl G sc fn X) {i : Nat} (h : Γ.kd i = true) : G.kd i = true := by
  rw [X0.kd]; exact h
theorem XO.k0 (X0 : XO Γ κ φ lvl G sc fn X) {i : Nat} (h : (!Γ.kd i) = true) : G.kd i = false := by
  rw [X0.kd]; simpa using h
/-- the block of a comprehension -/
theorem XO.blk (X0 : XO Γ κ φ lvl G sc fn X) (scope : Scope) (s : Shared) (H : Hp) (A : Addr) (cl : List (Str × Addr)) (fp : List Addr) :
    XO Γ κ φ lvl G (relS scope sc) (fun x => scope.names.lookup x == some .cell) (X.blk s H scope (compEnvC scope cl A X.env) fp) where
  N := X0.N
  sc := by rw [← X0.sc]; rfl
  fn := rfl
  calm := X0.calm
  K := X0.K
  kd := X0.kd
  nd := X0.nd
  room := X0.room
  mg := X0.mg
  cal := X0.cal
  con := X0.con
  xe := rfl
theorem XO.at (X0 : XO Γ κ φ lvl G sc fn X) (B : Addr → Prop) : XO Γ κ φ lvl (G.at B) sc fn X := ⟨X0.N, X0.sc, X0.fn, X0.calm, X0.K, X0.kd, X0.nd, X0.room, X0.mg, X0.cal, X0.con, X0.xe⟩
theorem XO.pass (X0 : XO Γ κ φ lvl G sc fn X) : PassesOwn (model X.prog X.w) X.A X.env X.xe := by
  rw [X0.xe]
  exact PassesOwn.never
theorem nstar {es : List Expr} : ∀ {env : Env}, es.all notStar = true → ∀ pos, (backTo pos (starEach es env)).any (·.1) = false := fun h pos => plain_back h
theorem chkP_ok (X0 : XO Γ κ φ lvl G sc fn X) : ∀ p t, chkP Γ sc fn p t = true → match t with | .inl e => PG X e (TPat G p) | .inr es => PGs X es (TPats G p) := by
  intro p
  induction p with
  | nm i =>
    intro t h
    unfold chkP at h
    split at h
    · simp only [Bool.and_eq_true] at h
      obtain ⟨⟨h1, h2⟩, h3⟩ := h
      exact g_nm (pg_name X0.nd' (X0.nm h1) (X0.loc h2).1 (X0.loc h2).2) (X0.k0 h3)
    · cases h
  | tp p ih =>
    intro t h
    unfold chkP at h
    split at h
    · simp only [Bool.and_eq_true, decide_eq_true_eq] at h
      obtain ⟨⟨h1, h2⟩, h3⟩ := h
      exact g_tup X0.K X0.calm (ih _ h1) h2 h3
    · cases h
  | nil =>
    intro t h
    unfold chkP at h
    split at h
    · exact g_nil
    · cases h
  | cons p q ihp ihq =>
    intro t h
    unfold chkP at h
    split at h
    · simp only [Bool.and_eq_true] at h
      obtain ⟨⟨h1, h2⟩, h3⟩ := h
      exact g_cons (ihp _ h1) (ihq _ h2) h3
    · cases h
end
end EV
/-! what a checked tree gives: all of it -/
namespace EV
open PySem PySem.Spec PyProof.Rows L2 RZ C8
theorem onE_of {tg : Tg} {f : Expr → Bool} (h : onE tg f = true) : ∃ b x, tg = .e b x ∧ f x = true := by
  cases tg with
  | e b x => exact ⟨b, x, rfl, h⟩
  | _ => cases h
theorem onV_of {tg : Tg} {f : Expr → Bool} (h : onV tg f = true) : ∃ x, tg = .e false x ∧ f x = true := by
  cases tg with
  | e b x => cases b with
    | false => exact ⟨x, rfl, h⟩
    | true => cases h
  | _ => cases h
theorem onS_of {tg : Tg} {f : Bool → Stmt → Bool} (h : onS tg f = true) : ∃ b x, tg = .s b x ∧ f b x = true := by
  cases tg with
  | s b x => exact ⟨b, x, rfl, h⟩
  | _ => cases h
def Ok (Γ : Gm) (φ : Nat → List D → R D) (κ : Nat → D) (c : C) : Prop := ∀ {lvl : Nat} {G : Cn} {sc : Scope} {fn : Str → Bool} {X : Cx} {tg : Tg}, chk Γ c sc fn tg = true → XO Γ κ φ lvl G sc fn X → Snd Γ φ κ X G c tg
section
variable {Γ : Gm} {φ : Nat → List D → R D} {κ : Nat → D}
theorem Ok.pe {c : C} (o : Ok Γ φ κ c) {lvl : Nat} {G : Cn} {sc : Scope} {fn : Str → Bool} {X : Cx} {x : Expr} (h : chk Γ c sc fn (.e false x) = true) (X0 : XO Γ κ φ lvl G sc fn X) : PE X x (T G (kdc Γ c) (puc c) (den φ κ c).E) := PEA.pe (o h X0)
theorem Ok.br {c : C} (o : Ok Γ φ κ c) {lvl : Nat} {G : Cn} {sc : Scope} {fn : Str → Bool} {X : Cx} {x : Expr} (h : chk Γ c sc fn (.e false x) = true) (hp : puc c = true) (X0 : XO Γ κ φ lvl G sc fn X) : PE X x (T G .br true (den φ κ c).E) := by
  have := toBr (o.pe h X0)
  rw [hp] at this
  exact this
theorem Ok.sh {c : C} (o : Ok Γ φ κ c) {lvl : Nat} {G : Cn} {sc : Scope} {fn : Str → Bool} {X : Cx} {x : Expr} (h : chk Γ c sc fn (.e false x) = true) (hp : puc c = true) (hn : nbr Γ c = true) (X0 : XO Γ κ φ lvl G sc fn X) : PE X x (T G .sh true (den φ κ c).E) := by
  have := toSh hn (o.pe h X0)
  rw [hp] at this
  exact this
theorem ok_k (d : D) : Ok Γ φ κ (.k d) := by
  intro lvl G sc fn X tg h X0
  obtain ⟨b, x, rfl, hq⟩ := onE_of h
  replace h := hq
  split at h
  · rename_i c j p
    refine fsh (m := mK d) ?_ rfl rfl rfl rfl rfl rfl b rfl
    cases d with
    | int i => cases c with
      | int j => cases of_decide_eq_true h; exact e_k pe_int fun H O => .inl (.int _)
      | _ => cases h
    | bl i => cases c with
      | bool j => cases of_decide_eq_true h; exact e_k pe_bl fun H O => .inl (.bl _)
      | _ => cases h
    | non => cases c with
      | none => exact e_k pe_non fun H O => .inl .non
      | _ => cases h
    | str s => cases c with
      | str z =>
        have h' := Bool.and_eq_true_iff.mp (show (decide (s = z) && strOkB s) = true from h)
        cases of_decide_eq_true h'.1
        exact e_k pe_str fun H O => .inl (.str _ h'.2)
      | _ => cases h
    | _ => cases c <;> cases h
  · cases h
theorem ok_g (j : Nat) : Ok Γ φ κ (.g j) := by
  intro lvl G sc fn X tg h X0
  obtain ⟨b, x, rfl, hq⟩ := onE_of h
  replace h := hq
  split at h
  · simp only [Bool.and_eq_true, decide_eq_true_eq] at h
    obtain ⟨u, v, h1, h2, h3⟩ := X0.con _ _ h.1
    refine fsh (m := mK (κ j)) ?_ rfl rfl rfl rfl rfl rfl b rfl
    exact e_k (pe_glob (X0.gl h.2).1 h1 h2 (X0.gl h.2).2) fun H O => .inl (h3 _ _)
  · cases h
theorem ok_v (i : Nat) : Ok Γ φ κ (.v i) := by
  intro lvl G sc fn X tg h X0
  obtain ⟨b, x, rfl, hq⟩ := onE_of h
  replace h := hq
  split at h
  · simp only [Bool.and_eq_true] at h
    obtain ⟨v1, v2, v3⟩ := X0.vis h.1.2
    exact fsh (m := mV i) (PE.weak (pe_var (X0.nm h.1.1) v1 v2 v3) (w_v (X0.k0 h.2))) rfl rfl rfl rfl rfl rfl b rfl
  · cases h
theorem ok_b (i : Nat) : Ok Γ φ κ (.b i) := by
  intro lvl G sc fn X tg h X0
  obtain ⟨b, x, rfl, hq⟩ := onE_of h
  replace h := hq
  split at h
  · simp only [Bool.and_eq_true] at h
    obtain ⟨v1, v2, v3⟩ := X0.vis h.1.2
    exact fbr (m := mV i) (PE.weak (pe_var (X0.nm h.1.1) v1 v2 v3) (w_b (X0.k1 h.2))) rfl rfl rfl rfl rfl rfl b rfl
  · cases h
theorem ok_m (i : Nat) : Ok Γ φ κ (.m i) := by
  intro lvl G sc fn X tg h X0
  obtain ⟨b, x, rfl, hq⟩ := onE_of h
  replace h := hq
  split at h
  · simp only [Bool.and_eq_true] at h
    obtain ⟨v1, v2, v3⟩ := X0.vis h.1.2
    exact fow (m := mM i) (PE.weak (pe_var (X0.nm h.1.1) v1 v2 v3) (w_m (X0.k1 h.2))) rfl rfl rfl rfl rfl rfl b rfl
  · cases h
theorem ok_bin (o : BO) {a b : C} (oa : Ok Γ φ κ a) (ob : Ok Γ φ κ b) : Ok Γ φ κ (.bin o a b) := by
  intro lvl G sc fn X tg h X0
  obtain ⟨t, x, rfl, hq⟩ := onE_of h
  replace h := hq
  split at h
  · simp only [Bool.and_eq_true] at h
    obtain ⟨⟨⟨⟨h1, h2⟩, h3⟩, h4⟩, h5⟩ := h
    have ha := oa.br h4 h2 X0
    have hb := ob.br h5 h3 X0
    refine fsh (m := m2 (bop o) (den φ κ a).E (den φ κ b).E) ?_ rfl rfl rfl rfl rfl rfl t rfl
    unfold bopB at h1
    split at h1
    · have := X0.K
      exact PE.weak (pe_op (op_catL.or (op_add.or (op_catA.or op_add_str))) ha hb) (by rw [this]; exact w_2 u_addL)
    · exact PE.weak (pe_op op_sub ha hb) (w_2 u_sub)
    · have := X0.K
      exact PE.weak (pe_op (op_mul.or (op_repT1.or op_repT)) ha hb) (by rw [this]; exact w_2 u_mulT)
    · exact PE.weak (pe_op op_fdivN ha hb) (w_2 u_div)
    · exact PE.weak (pe_op op_modN ha hb) (w_2 u_mod)
    · cases h1
  · cases h
theorem cop_ok (o : CO) {op : CmpOp} {lvl : Nat} {G : Cn} {sc : Scope} {fn : Str → Bool} {X : Cx} (X0 : XO Γ κ φ lvl G sc fn X) (h : copB o op = true) : ∃ r, OpR X (compareOp op) r ∧ U2 G .sh (cop o) r := by
  have hu := X0.room.un
  have hK := X0.K
  unfold copB at h
  split at h
  · exact ⟨_, op_lt, u_cmp⟩
  · exact ⟨_, op_le, u_cmp⟩
  · exact ⟨_, op_gt, u_cmp⟩
  · exact ⟨_, op_ge, u_cmp⟩
  · exact ⟨_, op_eqE (by omega), by rw [hK]; exact u_eqF⟩
  · exact ⟨_, op_neE (by omega), by rw [hK]; exact u_eqF⟩
  · exact ⟨_, op_inE (by omega), by rw [hK]; exact u_in⟩
  · exact ⟨_, op_notInE (by omega), by rw [hK]; exact u_in⟩
  · cases h
theorem ok_cmp (o : CO) {a b : C} (oa : Ok Γ φ κ a) (ob : Ok Γ φ κ b) : Ok Γ φ κ (.cmp o a b) := by
  intro lvl G sc fn X tg h X0
  obtain ⟨t, x, rfl, hq⟩ := onE_of h
  replace h := hq
  split at h
  · simp only [Bool.and_eq_true, Bool.not_eq_true'] at h
    obtain ⟨⟨⟨⟨⟨h1, h0⟩, h2⟩, h3⟩, h4⟩, h5⟩ := h
    have ha := oa.br h4 h2 X0
    have hb := ob.br h5 h3 X0
    obtain ⟨r, o1, o2⟩ := cop_ok o X0 h1
    exact f2 (m := m2 (cop o) (den φ κ a).E (den φ κ b).E) (PE.weak (pe_cmpR o1 ha hb h0) (w_2 o2)) (PT.weak (pt_cmpR o1 ha hb h0) fun σ H Q q => w_2 o2 σ H _ (w_tst σ H Q q)) rfl rfl rfl rfl rfl t rfl
  · cases h
theorem ok_isB (f : Bool) {a b : C} (oa : Ok Γ φ κ a) (ob : Ok Γ φ κ b) : Ok Γ φ κ (.isB f a b) := by
  intro lvl G sc fn X tg h X0
  obtain ⟨t, x, rfl, hq⟩ := onE_of h
  replace h := hq
  split at h
  · simp only [Bool.and_eq_true, Bool.not_eq_true'] at h
    obtain ⟨⟨⟨⟨⟨h1, h0⟩, h2⟩, h3⟩, h4⟩, h5⟩ := h
    have ha := oa.br h4 h2 X0
    have hb := ob.br h5 h3 X0
    have : ∃ r, OpR X (compareOp (by assumption)) r ∧ U2 G .sh (oIsB (bId f)) r := by
      unfold isOp at h1
      split at h1
      · exact ⟨_, op_isBl, u_isB (f := id)⟩
      · exact ⟨_, op_notBl, u_isB (f := fun b => !b)⟩
      · cases h1
    obtain ⟨r, o1, o2⟩ := this
    exact f2 (m := m2 (oIsB (bId f)) (den φ κ a).E (den φ κ b).E) (PE.weak (pe_cmpR o1 ha hb h0) (w_2 o2)) (PT.weak (pt_cmpR o1 ha hb h0) fun σ H Q q => w_2 o2 σ H _ (w_tst σ H Q q)) rfl rfl rfl rfl rfl t rfl
  · cases h
theorem ok_isN (f : Bool) {a : C} (oa : Ok Γ φ κ a) : Ok Γ φ κ (.isN f a) := by
  intro lvl G sc fn X tg h X0
  obtain ⟨t, x, rfl, hq⟩ := onE_of h
  replace h := hq
  split at h
  · simp only [Bool.and_eq_true] at h
    obtain ⟨⟨h1, h2⟩, h3⟩ := h
    have ha := oa.br h3 h2 X0
    unfold isOp at h1
    split at h1
    · exact f2 (m := m1 (oIsN id) (den φ κ a).E) (PE.weak (pe_cmp (pc_isN ha) rfl) (w_1 u_isN)) (PT.weak (pt_cmp (pc_isN ha) rfl) fun σ H Q q => by
        have z := w_1 (r := fun x H Q => Q (.bl (decide (x = .non))) H) (u_isN (G := G) (f := id)) σ H _ (w_tst σ H Q q)
        exact z) rfl rfl rfl rfl rfl t rfl
    · exact f2 (m := m1 (oIsN fun b => !b) (den φ κ a).E) (PE.weak (pe_cmp (pc_notN ha) rfl) (w_1 u_isN)) (PT.weak (pt_cmp (pc_notN ha) rfl) fun σ H Q q => by
        have z := w_1 (r := fun x H Q => Q (.bl (!decide (x = .non))) H) (u_isN (G := G) (f := fun b => !b)) σ H _ (w_tst σ H Q q)
        exact z) rfl rfl rfl rfl rfl t rfl
    · cases h1
  · cases h
theorem icop_ok (o : CO) {op : CmpOp} {X : Cx} (h : icopB o op = true) : OpR X (compareOp op) (rI0 fun i j => .bl (iop o i j)) := by
  unfold icopB at h
  split at h
  · exact op_lt
  · exact op_le
  · exact op_gt
  · exact op_ge
  · cases h
theorem ok_chain (o p : CO) {a b c : C} (oa : Ok Γ φ κ a) (ob : Ok Γ φ κ b) (oc : Ok Γ φ κ c) : Ok Γ φ κ (.chain o p a b c) := by
  intro lvl G sc fn X tg h X0
  obtain ⟨t, x, rfl, hq⟩ := onE_of h
  replace h := hq
  split at h
  · simp only [Bool.and_eq_true, Bool.not_eq_true'] at h
    obtain ⟨⟨⟨⟨⟨⟨⟨⟨h1, h2⟩, h3⟩, h4⟩, h5⟩, h6⟩, h7⟩, h8⟩, h9⟩ := h
    have ha := oa.br h7 h4 X0
    have hb := ob.br h8 h5 X0
    have hc := oc.br h9 h6 X0
    exact f2 (m := mChain (iop o) (iop p) (den φ κ a).E (den φ κ b).E (den φ κ c).E) (PE.weak (pe_chain (icop_ok o h1) (icop_ok p h2) ha hb hc h3) w_chain) (PT.weak (pt_chain (icop_ok o h1) (icop_ok p h2) ha hb hc h3) fun σ H Q q => w_chain σ H _ (w_tst σ H Q q)) rfl rfl rfl rfl rfl t rfl
  · cases h
theorem ok_neg {a : C} (oa : Ok Γ φ κ a) : Ok Γ φ κ (.neg a) := by
  intro lvl G sc fn X tg h X0
  obtain ⟨t, x, rfl, hq⟩ := onE_of h
  replace h := hq
  split at h
  · simp only [Bool.and_eq_true] at h
    exact fsh (m := m1 oNeg (den φ κ a).E) (PE.weak (pe_un un_neg (oa.br h.2 h.1 X0)) (w_1 u_neg)) rfl rfl rfl rfl rfl rfl t rfl
  · cases h
end
end EV
namespace EV
open PySem PySem.Spec PyProof.Rows L2 RZ C8
theorem PW.weak {X : Cx} {e : Expr} {t t' : TT} (h : PW X e t) (w : ∀ σ H Q, t' σ H Q → t σ H Q) : PW X e t' := ⟨fun wh pins s σ H Q I q => h.run wh pins s σ H Q I (w σ H Q q)⟩
section
variable {Γ : Gm} {φ : Nat → List D → R D} {κ : Nat → D}
theorem ok_not {a : C} (oa : Ok Γ φ κ a) : Ok Γ φ κ (.not a) := by
  intro lvl G sc fn X tg h X0
  unfold chk at h
  split at h
  · simp only [Bool.and_eq_true] at h
    exact PEA.of (PE.weak (pe_not (oa.sh h.2 h.1.1 h.1.2 X0)) w_mnot) rfl
  · exact ⟨PT.weak (pt_not (oa h X0).1) w_tnot, fun z => nomatch z⟩
  · cases h
theorem ok_and {a b : C} (oa : Ok Γ φ κ a) (ob : Ok Γ φ κ b) : Ok Γ φ κ (.and a b) := by
  intro lvl G sc fn X tg h X0
  unfold chk at h
  split at h
  · simp only [Bool.and_eq_true] at h
    obtain ⟨⟨⟨⟨⟨h1, h2⟩, h3⟩, h4⟩, h5⟩, h6⟩ := h
    exact PEA.of (PE.weak (pe_and (oa.sh h5 h1 h2 X0) (ob.sh h6 h3 h4 X0)) w_mand) rfl
  · simp only [Bool.and_eq_true] at h
    have w := PW.weak (pw_and (oa h.1 X0).1 ((ob h.2 X0).2 rfl)) (w_tand (G := G))
    exact ⟨w.pt, fun _ => w⟩
  · cases h
theorem ok_or {a b : C} (oa : Ok Γ φ κ a) (ob : Ok Γ φ κ b) : Ok Γ φ κ (.or a b) := by
  intro lvl G sc fn X tg h X0
  unfold chk at h
  split at h
  · simp only [Bool.and_eq_true] at h
    obtain ⟨⟨⟨⟨⟨h1, h2⟩, h3⟩, h4⟩, h5⟩, h6⟩ := h
    exact PEA.of (PE.weak (pe_or (oa.sh h5 h1 h2 X0) (ob.sh h6 h3 h4 X0)) w_mor) rfl
  · simp only [Bool.and_eq_true] at h
    have w := PW.weak (pw_or (oa h.1 X0).1 ((ob h.2 X0).2 rfl)) (w_tor (G := G))
    exact ⟨w.pt, fun _ => w⟩
  · cases h
theorem ok_one {a : C} (oa : Ok Γ φ κ a) : Ok Γ φ κ (.one a) := by
  intro lvl G sc fn X tg h X0
  unfold chk at h
  split at h
  · simp only [Bool.and_eq_true] at h
    have := oa.pe h.2 X0
    rw [h.1] at this
    exact PEA.of (pe_one this) rfl
  · rename_i op y p
    have w : PW X (.BoolOp op [y] p) (TB G true (den φ κ a).T) := by
      cases op with
      | And => exact pw_and1 (oa h X0).1
      | Or => exact pw_or1 (oa h X0).1
    exact ⟨w.pt, fun _ => w⟩
  · cases h
theorem ok_ifx {t a b : C} (ot : Ok Γ φ κ t) (oa : Ok Γ φ κ a) (ob : Ok Γ φ κ b) : Ok Γ φ κ (.ifx t a b) := by
  intro lvl G sc fn X tg h X0
  obtain ⟨x, rfl, hq⟩ := onV_of h
  replace h := hq
  split at h
  · simp only [Bool.and_eq_true] at h
    obtain ⟨⟨⟨⟨⟨⟨h1, h2⟩, h3⟩, h4⟩, h5⟩, h6⟩, h7⟩ := h
    have hp := (ot h5 X0).1
    by_cases e : kdc Γ a = .ow ∧ kdc Γ b = .ow
    · have ha := oa.pe h6 X0
      have hb := ob.pe h7 X0
      rw [h1, e.1] at ha
      rw [h3, e.2] at hb
      have ek : kdc Γ (.ifx t a b) = .ow := by show (match kdc Γ a with | .ow => _ | _ => _) = _; rw [e.1]; show (match kdc Γ b with | .ow => _ | _ => _) = _; rw [e.2]
      show PEA X _ (T G (kdc Γ (.ifx t a b)) true _)
      rw [ek]
      exact PEA.of (PE.weak (pe_ifExp hp ha hb) w_if) rfl
    · have ek : kdc Γ (.ifx t a b) = .sh := by
        show (match kdc Γ a with | .ow => (match kdc Γ b with | .ow => Kd.ow | _ => .sh) | _ => .sh) = _
        cases ea : kdc Γ a <;> cases eb : kdc Γ b <;> first | rfl | exact absurd ⟨ea, eb⟩ e
      show PEA X _ (T G (kdc Γ (.ifx t a b)) true _)
      rw [ek]
      exact PEA.of (PE.weak (pe_ifExp hp (oa.sh h6 h1 h2 X0) (ob.sh h7 h3 h4 X0)) w_if) rfl
  · cases h
theorem ok_nil : Ok Γ φ κ .nil := by
  intro lvl G sc fn X tg h X0
  unfold chk at h
  split at h
  · exact l_nil
  · cases h
theorem ok_cons {a b : C} (oa : Ok Γ φ κ a) (ob : Ok Γ φ κ b) : Ok Γ φ κ (.cons a b) := by
  intro lvl G sc fn X tg h X0
  unfold chk at h
  split at h
  · simp only [Bool.and_eq_true] at h
    obtain ⟨⟨⟨h1, h2⟩, h3⟩, h4⟩ := h
    have ha := toSh h2 (oa.pe h3 X0)
    have hb : PA X _ (TL G (puc b) (den φ κ b).L) := ob h4 X0
    show PA X _ (TL G (puc a && puc b) _)
    cases ea : puc a with
    | true =>
      rw [ea] at ha
      exact l_cons (T.any_pu ha) hb h1
    | false =>
      rw [ea] at ha
      refine l_cons ha ?_ h1
      cases eb : puc b with
      | true => rw [eb] at hb; exact TL.any_pu hb
      | false => rw [eb] at hb; exact hb
  · cases h
theorem ok_tup {l : C} (ol : Ok Γ φ κ l) : Ok Γ φ κ (.tup l) := by
  intro lvl G sc fn X tg h X0
  obtain ⟨t, x, rfl, hq⟩ := onE_of h
  replace h := hq
  split at h
  · simp only [Bool.and_eq_true] at h
    have hl : PA X _ (TL G (puc l) (den φ κ l).L) := ol h.2 X0
    rw [h.1] at hl
    exact fsh (m := mTup (den φ κ l).L) (PE.weak (pe_tup hl) w_tup) rfl rfl rfl rfl rfl rfl t rfl
  · cases h
theorem ok_lst {l : C} (ol : Ok Γ φ κ l) : Ok Γ φ κ (.lst l) := by
  intro lvl G sc fn X tg h X0
  obtain ⟨t, x, rfl, hq⟩ := onE_of h
  replace h := hq
  split at h
  · simp only [Bool.and_eq_true] at h
    have hl : PA X _ (TL G (puc l) (den φ κ l).L) := ol h.2 X0
    rw [h.1] at hl
    exact fow (m := mLst (den φ κ l).L) (PE.weak (pe_lst hl) w_lst) rfl rfl rfl rfl rfl rfl t rfl
  · cases h
theorem ok_ix {a b : C} (oa : Ok Γ φ κ a) (ob : Ok Γ φ κ b) : Ok Γ φ κ (.ix a b) := by
  intro lvl G sc fn X tg h X0
  obtain ⟨t, x, rfl, hq⟩ := onE_of h
  replace h := hq
  split at h
  · simp only [Bool.and_eq_true] at h
    obtain ⟨⟨⟨⟨h1, h2⟩, h3⟩, h4⟩, h5⟩ := h
    have hK := X0.K
    exact fsh (m := m2 oIx (den φ κ a).E (den φ κ b).E) (PE.weak (pe_ix (ix_list.or ix_tup) (oa.br h4 h2 X0) (ob.br h5 h3 X0) (ix_of h1)) (by rw [hK]; exact w_2 u_ix)) rfl rfl rfl rfl rfl rfl t rfl
  · cases h
theorem ok_sl (own : Bool) {a lo hi : C} (oa : Ok Γ φ κ a) (ol : Ok Γ φ κ lo) (oh : Ok Γ φ κ hi) : Ok Γ φ κ (.sl own a lo hi) := by
  intro lvl G sc fn X tg h X0
  obtain ⟨t, x, rfl, hq⟩ := onE_of h
  replace h := hq
  split at h
  · simp only [Bool.and_eq_true] at h
    obtain ⟨⟨⟨h1, h2⟩, h3⟩, h4⟩ := h
    have hK := X0.K
    have ha := oa.br h2 h1 X0
    have hl : PO X _ (TOp G (den φ κ lo).O) := ol h3 X0
    have hh : PO X _ (TOp G (den φ κ hi).O) := oh h4 X0
    cases own with
    | false => exact fsh (m := mSl false (den φ κ a).E (den φ κ lo).O (den φ κ hi).O) (PE.weak (pe_slice sl_e ha hl hh) (by rw [hK]; exact w_sl_sh)) rfl rfl rfl rfl rfl rfl t rfl
    | true => exact fow (m := mSl true (den φ κ a).E (den φ κ lo).O (den φ κ hi).O) (PE.weak (pe_slice sl_e ha hl hh) (by rw [hK]; exact w_sl_ow)) rfl rfl rfl rfl rfl rfl t rfl
  · cases h
theorem ok_rev (own : Bool) {a : C} (oa : Ok Γ φ κ a) : Ok Γ φ κ (.rev own a) := by
  intro lvl G sc fn X tg h X0
  obtain ⟨t, x, rfl, hq⟩ := onE_of h
  replace h := hq
  split at h
  · simp only [Bool.and_eq_true] at h
    have hK := X0.K
    have ha := oa.br h.2 h.1 X0
    cases own with
    | false => exact fsh (m := m1 (oRev false) (den φ κ a).E) (PE.weak (pe_rev ha) (by rw [hK]; exact w_1 (u_rev (own := false)))) rfl rfl rfl rfl rfl rfl t rfl
    | true => exact fow (m := m1 (oRev true) (den φ κ a).E) (PE.weak (pe_rev ha) (by rw [hK]; exact w_1 (u_rev (own := true)))) rfl rfl rfl rfl rfl rfl t rfl
  · cases h
theorem ok_np : Ok Γ φ κ .np := by
  intro lvl G sc fn X tg h X0
  unfold chk at h
  split at h
  · exact po_no
  · cases h
theorem ok_pt {a : C} (oa : Ok Γ φ κ a) : Ok Γ φ κ (.pt a) := by
  intro lvl G sc fn X tg h X0
  unfold chk at h
  split at h
  · simp only [Bool.and_eq_true] at h
    exact po_pt (oa.br h.2 h.1 X0)
  · cases h
/-- one argument, to a built-in -/
theorem w_c1 {G : Cn} {k : Kd} {op : D → Option D} {r : List V → Hp → VK → Prop} {m : ME} (hu : U1 G k op (fun x H Q => r [x] H Q)) (σ : L2.St) (H : Hp) (Q : VK) (q : T G k true (m1 op m) σ H Q) : tCB r (L2.tCons (T G .br true m) L2.tNil) σ H Q := by
  exact w_1 hu σ H Q q
theorem ok_c1 (f : UO) {a : C} (oa : Ok Γ φ κ a) : Ok Γ φ κ (.c1 f a) := by
  intro lvl G sc fn X tg h X0
  obtain ⟨t, x, rfl, hq⟩ := onE_of h
  replace h := hq
  split at h
  · simp only [Bool.and_eq_true, decide_eq_true_eq] at h
    obtain ⟨⟨⟨⟨h1, h2⟩, h3⟩, h4⟩, h5⟩ := h
    subst h1
    have hK := X0.K
    have hg := (X0.gl h2).1
    have ha := pa_cons (oa.br h5 h4 X0) pa_nil (star_of h3)
    refine fsh (m := m1 (uop f) (den φ κ a).E) ?_ rfl rfl rfl rfl rfl rfl t rfl
    cases f with
    | len => exact PE.weak (pe_callB (call_len_seq) hg (X0.mg _ (by decide +kernel)) rfl ha (by decide) (by decide) (star_of h3) rfl) (w_c1 (by rw [hK]; exact u_len))
    | sum => exact PE.weak (pe_callB (cr_sum2 X0.calm) hg (X0.mg _ (by decide +kernel)) rfl ha (by decide) (by decide) (star_of h3) rfl) (w_c1 (by rw [hK]; exact u_sum))
    | all => exact PE.weak (pe_callB (cr_all X0.calm) hg (X0.mg _ (by decide +kernel)) rfl ha (by decide) (by decide) (star_of h3) rfl) (w_c1 (by rw [hK]; exact u_all))
    | any => exact PE.weak (pe_callB (cr_any X0.calm) hg (X0.mg _ (by decide +kernel)) rfl ha (by decide) (by decide) (star_of h3) rfl) (w_c1 (by rw [hK]; exact u_any))
    | tuple => exact PE.weak (pe_callTy call_tuple_of hg (X0.mg _ (by decide +kernel)) rfl ha (by decide) (by decide) (star_of h3) rfl) (w_c1 (by rw [hK]; exact u_tuple))
    | min => exact PE.weak (pe_callB (cr_min X0.calm) hg (X0.mg _ (by decide +kernel)) rfl ha (by decide) (by decide) (star_of h3) rfl) (w_c1 (by rw [hK]; exact u_minL))
    | max => exact PE.weak (pe_callB (cr_max X0.calm) hg (X0.mg _ (by decide +kernel)) rfl ha (by decide) (by decide) (star_of h3) rfl) (w_c1 (by rw [hK]; exact u_maxL))
    | int => exact PE.weak (pe_callTy call_int1 hg (X0.mg _ (by decide +kernel)) rfl ha (by decide) (by decide) (star_of h3) rfl) (w_c1 u_int)
    | abs => exact PE.weak (pe_callB call_abs hg (X0.mg _ (by decide +kernel)) rfl ha (by decide) (by decide) (star_of h3) rfl) (w_c1 u_abs)
  · cases h
theorem ok_list {a : C} (oa : Ok Γ φ κ a) : Ok Γ φ κ (.list a) := by
  intro lvl G sc fn X tg h X0
  obtain ⟨t, x, rfl, hq⟩ := onE_of h
  replace h := hq
  split at h
  · simp only [Bool.and_eq_true, decide_eq_true_eq] at h
    obtain ⟨⟨⟨⟨h1, h2⟩, h3⟩, h4⟩, h5⟩ := h
    subst h1
    have hK := X0.K
    have hg := (X0.gl h2).1
    have ha := pa_cons (oa.br h5 h4 X0) pa_nil (star_of h3)
    refine fow (m := m1 oList (den φ κ a).E) ?_ rfl rfl rfl rfl rfl rfl t rfl
    exact PE.weak (pe_callTy call_list_of hg (X0.mg _ (by decide +kernel)) rfl ha (by decide) (by decide) (star_of h3) rfl) (w_c1 (by rw [hK]; exact u_list))
  · cases h
theorem cr_sortF {X : Cx} (hu : X.A.units + 80 < cLine) : CallR X (.builtin "sorted") (fun xs H Q => ∃ F x, xs = [x] ∧ rSortE X.K F x H Q) := by
  intro pins s σ H xs us Q I r h
  obtain ⟨F, h⟩ := h
  exact cr_sort hu F pins s σ H xs us Q I r h
theorem ok_sorted {a : C} (oa : Ok Γ φ κ a) : Ok Γ φ κ (.sorted a) := by
  intro lvl G sc fn X tg h X0
  obtain ⟨t, x, rfl, hq⟩ := onE_of h
  replace h := hq
  split at h
  · simp only [Bool.and_eq_true, decide_eq_true_eq] at h
    obtain ⟨⟨⟨⟨h1, h2⟩, h3⟩, h4⟩, h5⟩ := h
    subst h1
    have hK := X0.K
    have hu := X0.room.un
    have hg := (X0.gl h2).1
    have ha := pa_cons (oa.br h5 h4 X0) pa_nil (star_of h3)
    refine fow (m := m1 oSort (den φ κ a).E) ?_ rfl rfl rfl rfl rfl rfl t rfl
    refine PE.weak (pe_callB (cr_sortF (by omega)) hg (X0.mg _ (by decide +kernel)) rfl ha (by decide) (by decide) (star_of h3) rfl) (w_c1 (r := fun xs H Q => ∃ F x, xs = [x] ∧ rSortE X.K F x H Q) ?_)
    intro st σ H O v d d' Q S hv ho q
    obtain ⟨F, z⟩ := u_sort (st0 := st) S hv ho q
    exact ⟨F, v, rfl, by rw [hK]; exact z⟩
  · cases h
theorem ok_isi (ts : List TN) {a : C} (oa : Ok Γ φ κ a) : Ok Γ φ κ (.isi ts a) := by
  intro lvl G sc fn X tg h X0
  obtain ⟨t, x, rfl, hq⟩ := onE_of h
  replace h := hq
  split at h
  · split at h
    · rename_i tn
      simp only [Bool.and_eq_true, decide_eq_true_eq] at h
      obtain ⟨⟨⟨⟨⟨⟨h1, h2⟩, h6⟩, h7⟩, h3⟩, h4⟩, h5⟩ := h
      subst h1
      subst h6
      have hK := X0.K
      have hg := (X0.gl h2).1
      have hg2 := (X0.gl h7).1
      refine fsh (m := m1 (oIsi [tn]) (den φ κ a).E) ?_ rfl rfl rfl rfl rfl rfl t rfl
      rename_i p0 y p1 p2 _
      have ht : PE X (.Name tn.name p1) (tC (.ty tn.ty)) := by
        cases tn with
        | int => exact pe_bltn hg2 (X0.mg _ (by decide +kernel)) rfl rfl
        | bool => exact pe_bltn hg2 (X0.mg _ (by decide +kernel)) rfl rfl
        | str => exact pe_bltn hg2 (X0.mg _ (by decide +kernel)) rfl rfl
        | tup => exact pe_bltn hg2 (X0.mg _ (by decide +kernel)) rfl rfl
        | lst => exact pe_bltn hg2 (X0.mg _ (by decide +kernel)) rfl rfl
        | dct => exact pe_bltn hg2 (X0.mg _ (by decide +kernel)) rfl rfl
      have ha := pa_cons (oa.br h5 h4 X0) (pa_cons ht pa_nil rfl) (star_of h3)
      exact PE.weak (pe_callB call_isi hg (X0.mg _ (by decide +kernel)) rfl ha (by decide) (by decide) (star_of h3) rfl) fun σ H Q q => by
        have z := w_1 (r := fun x H Q => rIsi G.K [x, .ty tn.ty] H Q) u_isi σ H Q q
        rw [hK]
        exact z
    · cases h
  · split at h
    · rename_i tn un
      simp only [Bool.and_eq_true, decide_eq_true_eq] at h
      obtain ⟨⟨⟨⟨⟨⟨⟨⟨h1, h2⟩, h6⟩, h7⟩, h8⟩, h9⟩, h3⟩, h4⟩, h5⟩ := h
      subst h1
      subst h6
      subst h8
      have hK := X0.K
      have hg := (X0.gl h2).1
      refine fsh (m := m1 (oIsi [tn, un]) (den φ κ a).E) ?_ rfl rfl rfl rfl rfl rfl t rfl
      have bt : ∀ (tn : TN) (p1 : Pos), Gl X tn.name → PE X (.Name tn.name p1) (tC (.ty tn.ty)) := fun tn p1 hg2 => by
        cases tn with
        | int => exact pe_bltn hg2 (X0.mg _ (by decide +kernel)) rfl rfl
        | bool => exact pe_bltn hg2 (X0.mg _ (by decide +kernel)) rfl rfl
        | str => exact pe_bltn hg2 (X0.mg _ (by decide +kernel)) rfl rfl
        | tup => exact pe_bltn hg2 (X0.mg _ (by decide +kernel)) rfl rfl
        | lst => exact pe_bltn hg2 (X0.mg _ (by decide +kernel)) rfl rfl
        | dct => exact pe_bltn hg2 (X0.mg _ (by decide +kernel)) rfl rfl
      have ht := fun {x1 : Nat} {pos : Pos} {p1 p2 : Pos} => pe_tup (x1 := x1) (pos := pos) (pa_cons (bt tn p1 (X0.gl h7).1) (pa_cons (bt un p2 (X0.gl h9).1) pa_nil rfl) rfl)
      rename_i q4 y q3 q2 kk q1 q0 _
      have ha := pa_cons (oa.br h5 h4 X0) (pa_cons (ht (x1 := kk) (pos := q1) (p1 := q3) (p2 := q2)) pa_nil rfl) (star_of h3)
      exact PE.weak (pe_callB call_isiT hg (X0.mg _ (by decide +kernel)) rfl ha (by decide) (by decide) (star_of h3) rfl) fun σ H Q q => by
        have z := w_1 (r := fun x H Q => ∀ p, H p = none → rIsiT G.K [x, .ref p] (upd H p (.tup [.ty tn.ty, .ty un.ty])) Q) u_isiT σ H Q q
        rw [hK]
        obtain ⟨st, O, S, z⟩ := z
        refine ⟨st, O, S, R.all_mono (fun x z v H1 O1 s1 S1 r1 => ?_) z⟩
        exact ⟨(show 2 ≤ sizeLine by decide), fun p np => z v H1 O1 s1 S1 r1 p np⟩
    · cases h
  · cases h
theorem ok_mm (f : Bool) {a b : C} (oa : Ok Γ φ κ a) (ob : Ok Γ φ κ b) : Ok Γ φ κ (.mm f a b) := by
  intro lvl G sc fn X tg h X0
  obtain ⟨t, x, rfl, hq⟩ := onE_of h
  replace h := hq
  split at h
  · simp only [Bool.and_eq_true, decide_eq_true_eq] at h
    obtain ⟨⟨⟨⟨⟨⟨⟨h1, h2⟩, h3⟩, h4⟩, h5⟩, h6⟩, h7⟩, h8⟩ := h
    subst h1
    rename_i p0 y z p1
    have hg := (X0.gl h2).1
    have ha := pa_cons (oa.br h7 h5 X0) (pa_cons (ob.br h8 h6 X0) pa_nil (star_of h4)) (star_of h3)
    refine fsh (m := m2 (mmop f) (den φ κ a).E (den φ κ b).E) ?_ rfl rfl rfl rfl rfl rfl t rfl
    have hp : ∀ p, (backTo p (starEach [z] X.env)).any (·.1) = false := fun p => plain_back (es := [z]) (by simp [h4])
    cases f with
    | true => exact PE.weak (pe_callB (call_min2 X0.calm) hg (X0.mg _ (by decide +kernel)) rfl ha (by decide) (by decide) (star_of h3) (hp _)) (w_c2 u_min2)
    | false => exact PE.weak (pe_callB (call_max2 X0.calm) hg (X0.mg _ (by decide +kernel)) rfl ha (by decide) (by decide) (star_of h3) (hp _)) (w_c2 u_max2)
  · cases h
theorem ok_pop (i : Nat) : Ok Γ φ κ (.pop i) := by
  intro lvl G sc fn X tg h X0
  unfold chk at h
  split at h
  · simp only [Bool.and_eq_true, decide_eq_true_eq] at h
    obtain ⟨⟨⟨⟨h1, h2⟩, h3⟩, h4⟩, h5⟩ := h
    subst h1
    obtain ⟨v1, v2, v3⟩ := X0.vis h4
    have hK := X0.K
    refine PEA.of (PE.weak (pe_bm0 PySem.F.plainAttrs_list PySem.F.slot_list_pop PySem.F.type_list_pop mt_pop (pe_var (X0.nm h3) v1 v2 v3) rfl h2) ?_) rfl
    rw [hK]
    exact w_pop (X0.k1 h5)
  · cases h
theorem ok_popAt (i : Nat) {a : C} (oa : Ok Γ φ κ a) : Ok Γ φ κ (.popAt i a) := by
  intro lvl G sc fn X tg h X0
  unfold chk at h
  split at h
  · simp only [Bool.and_eq_true, decide_eq_true_eq] at h
    obtain ⟨⟨⟨⟨⟨⟨⟨h1, h2⟩, h3⟩, h4⟩, h5⟩, h6⟩, h7⟩, h8⟩ := h
    subst h1
    obtain ⟨v1, v2, v3⟩ := X0.vis h4
    have hK := X0.K
    refine PEA.of (PE.weak (pe_bm PySem.F.plainAttrs_list PySem.F.slot_list_pop PySem.F.type_list_pop mt_popAt (pe_var (X0.nm h3) v1 v2 v3) (pa_cons (toSh h7 (oa.pe h8 X0)) pa_nil (star_of h6)) rfl (by rw [star_of h6]; rfl) h2 (star_of h6) rfl) ?_) rfl
    rw [hK]
    exact w_popAt (X0.k1 h5)
  · cases h
theorem ok_rep {a b : C} (oa : Ok Γ φ κ a) (ob : Ok Γ φ κ b) : Ok Γ φ κ (.rep a b) := by
  intro lvl G sc fn X tg h X0
  obtain ⟨t, x, rfl, hq⟩ := onE_of h
  replace h := hq
  split at h
  · simp only [Bool.and_eq_true] at h
    obtain ⟨⟨⟨⟨h1, h2⟩, h3⟩, h4⟩, h5⟩ := h
    have ha := toOw h1 (oa.pe h4 X0)
    rw [h2] at ha
    exact fow (m := m2 oRepL (den φ κ a).E (den φ κ b).E) (PE.weak (pe_op op_rep ha (ob.br h5 h3 X0)) w_rep) rfl rfl rfl rfl rfl rfl t rfl
  · cases h
theorem ok_sset {a : C} (oa : Ok Γ φ κ a) : Ok Γ φ κ (.sset a) := by
  intro lvl G sc fn X tg h X0
  obtain ⟨t, x, rfl, hq⟩ := onE_of h
  replace h := hq
  split at h
  · simp only [Bool.and_eq_true, decide_eq_true_eq] at h
    obtain ⟨⟨⟨⟨⟨⟨h1, h2⟩, h3⟩, h4⟩, h5⟩, h6⟩, h7⟩ := h
    subst h1
    subst h2
    have hK := X0.K
    have hu := X0.room.un
    have hg := (X0.gl h3).1
    have hg2 := (X0.gl h4).1
    have ha := pa_cons (oa.br h7 h6 X0) pa_nil (star_of h5)
    refine fow (m := m1 oSSet2 (den φ κ a).E) ?_ rfl rfl rfl rfl rfl rfl t rfl
    have hs := fun {p q} => pe_callTy (p := p) (pos := q) (cr_or (cr_setOfT X0.calm (by omega)) (cr_setI X0.calm)) hg2 (X0.mg _ (by decide +kernel)) rfl ha (by decide) (by decide) (star_of h5) rfl
    exact PE.weak (pe_callB (cr_or (cr_sortedT X0.calm) (cr_sortedSet X0.calm)) hg (X0.mg _ (by decide +kernel)) rfl (pa_cons hs pa_nil rfl) (by decide) (by decide) rfl rfl) (by rw [hK]; exact w_1 u_sset2)
  · cases h
theorem ok_lset {a : C} (oa : Ok Γ φ κ a) : Ok Γ φ κ (.lset a) := by
  intro lvl G sc fn X tg h X0
  obtain ⟨t, x, rfl, hq⟩ := onE_of h
  replace h := hq
  split at h
  · simp only [Bool.and_eq_true, decide_eq_true_eq] at h
    obtain ⟨⟨⟨⟨⟨⟨h1, h2⟩, h3⟩, h4⟩, h5⟩, h6⟩, h7⟩ := h
    subst h1
    subst h2
    have hK := X0.K
    have hu := X0.room.un
    have hg := (X0.gl h3).1
    have hg2 := (X0.gl h4).1
    have ha := pa_cons (oa.br h7 h6 X0) pa_nil (star_of h5)
    refine fsh (m := m1 oLSet (den φ κ a).E) ?_ rfl rfl rfl rfl rfl rfl t rfl
    have hs := fun {p q} => pe_callTy (p := p) (pos := q) (cr_or (cr_setOfT X0.calm (by omega)) (cr_setI X0.calm)) hg2 (X0.mg _ (by decide +kernel)) rfl ha (by decide) (by decide) (star_of h5) rfl
    exact PE.weak (pe_callB (cr_lenS X0.calm) hg (X0.mg _ (by decide +kernel)) rfl (pa_cons hs pa_nil rfl) (by decide) (by decide) rfl rfl) (by rw [hK]; exact w_1 u_lset)
  · cases h
theorem ok_dic1 {k v : C} (ok : Ok Γ φ κ k) (ov : Ok Γ φ κ v) : Ok Γ φ κ (.dic1 k v) := by
  intro lvl G sc fn X tg h X0
  obtain ⟨t, x, rfl, hq⟩ := onE_of h
  replace h := hq
  split at h
  · simp only [Bool.and_eq_true] at h
    obtain ⟨⟨⟨⟨⟨h1, h2⟩, h3⟩, h4⟩, h5⟩, h6⟩ := h
    exact fsh (m := mDic (den φ κ k).E (den φ κ v).E) (pe_dic (ok.sh h5 h1 h2 X0) (ov.sh h6 h3 h4 X0)) rfl rfl rfl rfl rfl rfl t rfl
  · cases h
theorem ok_cat {a b : C} (oa : Ok Γ φ κ a) (ob : Ok Γ φ κ b) : Ok Γ φ κ (.cat a b) := by
  intro lvl G sc fn X tg h X0
  obtain ⟨t, x, rfl, hq⟩ := onE_of h
  replace h := hq
  split at h
  · simp only [Bool.and_eq_true] at h
    obtain ⟨⟨⟨h2, h3⟩, h4⟩, h5⟩ := h
    exact fow (m := m2 oCatL (den φ κ a).E (den φ κ b).E) (PE.weak (pe_op op_catL (oa.br h4 h2 X0) (ob.br h5 h3 X0)) (w_2 u_catL)) rfl rfl rfl rfl rfl rfl t rfl
  · cases h
end
end EV
namespace EV
open PySem PySem.Spec PyProof.Rows L2 RZ C8
section
variable {Γ : Gm} {φ : Nat → List D → R D} {κ : Nat → D}
theorem len_ok {sc : Scope} {fn : Str → Bool} : ∀ c es, chk Γ c sc fn (.l es) = true → ∀ st, ((den φ κ c).L st).pall fun p => p.1.length = es.length := by
  intro c
  induction c with
  | nil =>
    intro es h st
    cases es with
    | nil => rfl
    | cons e es => cases h
  | cons a b iha ihb =>
    intro es h st
    cases es with
    | nil => cases h
    | cons e es =>
      have h' := (Bool.and_eq_true_iff.mp (show (_ && chk Γ b sc fn (.l es)) = true from h)).2
      exact R.pall_bind (pall_any (fun p => R.pall_bind (R.pall_mono (fun q e => congrArg (· + 1) e) (ihb es h' p.2))) _)
  | _ => exact fun es h => nomatch h
theorem ok_fn (j : Nat) {l : C} (ol : Ok Γ φ κ l) : Ok Γ φ κ (.fn j l) := by
  intro lvl G sc fn X tg h X0
  unfold chk at h
  split at h
  · rename_i t n p0 y es pos
    split at h
    · rename_i x k ro ef
      simp only [Bool.and_eq_true, decide_eq_true_eq] at h
      obtain ⟨⟨⟨⟨⟨h1, h2⟩, h3⟩, h4⟩, h5⟩, h6⟩ := h
      subst h1
      have hl : PA X _ (TL G (puc l) (den φ κ l).L) := ol h6 X0
      have hn : ∀ st, ((den φ κ l).L st).pall fun p => p.1.length = k := by
        rw [h2]
        exact len_ok l _ h6
      have h4' := h4
      rw [List.all_cons, Bool.and_eq_true] at h4'
      have pe : PE X (.Call (.Name n p0) (y :: es) [] pos) (T G (kOf ro) (puc l) (mCall (φ j) (den φ κ l).L)) :=
        PE.weak (pe_c (X0.cal j n k ro ef) X0.room (Nat.le_refl _) (X0.gl h3).1 hl (X0.gl h3).2 (star_of h4'.1) (plain_back h4'.2)) fun σ H Q q => w_call σ H Q hn q
      have ek : kdc Γ (.fn j l) = kOf ro := by
        show (match Γ.funs[j]? with | some (_, _, ro) => kOf ro | none => Kd.sh) = _
        rw [ef]
      cases t with
      | false =>
        show PEA X _ (T G (kdc Γ (.fn j l)) (puc l) _)
        rw [ek]
        exact PEA.of pe rfl
      | true =>
        have hp : puc l = true := by simpa using h5
        rw [hp, ← ek] at pe
        exact ⟨t_val (toBr pe) rfl, fun z => nomatch z⟩
    · cases h
  · cases h
theorem ownP_snd {N : List Str} : ∀ {own : List Nat}, (ownP N own).map (·.2) = own
  | [] => rfl
  | _ :: own => congrArg _ (ownP_snd (own := own))
theorem ex_pe {X : Cx} {e : Expr} {t : (Addr → Prop) → TE} (h : ∀ B, PE X e (t B)) : PE X e (fun σ H Q => ∃ B, t B σ H Q) := ⟨fun pins s σ H Q I q => q.elim fun B q => (h B).run pins s σ H Q I q⟩
theorem ex_pts {X : Cx} {e : List Expr} {t : (Addr → Prop) → TT} (h : ∀ B, PTs X e (t B)) : PTs X e (fun σ H Q => ∃ B, t B σ H Q) := ⟨fun pins s σ H Q I q => q.elim fun B q => (h B).run pins s σ H Q I q⟩
theorem ex_pg {X : Cx} {e : Expr} {t : (Addr → Prop) → TG} (h : ∀ B, PG X e (t B)) : PG X e (fun v σ H Q => ∃ B, t B v σ H Q) := ⟨fun pins s σ H v u Q I r q => q.elim fun B q => (h B).run pins s σ H v u Q I r q⟩
def swC (sc : Scope) (scope : Scope) (y : Str) (py p : Pos) : Bool := (match sc.kind with | .function => true | _ => false) && lcl sc y && py.line == p.line && !(scope.names.any fun (n, k) => n == y && (k == .local || k == .cell))
theorem ok_lc (own : List Nat) (p : Pat) {s c e : C} (os : Ok Γ φ κ s) (oc : Ok Γ φ κ c) (oe : Ok Γ φ κ e) : Ok Γ φ κ (.lc own p s c e) := by
  intro lvl G sc fn X tg h X0
  obtain ⟨t, x, rfl, hq⟩ := onE_of h
  replace h := hq
  split at h
  · rename_i elt tgx iter ifs scope pos
    simp only [Bool.and_eq_true] at h
    obtain ⟨⟨⟨⟨⟨⟨⟨⟨⟨⟨⟨⟨h1, h2⟩, h3⟩, h4⟩, h5⟩, h6⟩, h7⟩, h8⟩, h9⟩, h10⟩, h11⟩, h12⟩, h13⟩ := h
    have hb : BlkOk X.N X.env.scope scope (ownP Γ.N own) := by rw [X0.N, X0.sc]; exact blkOk_by h1
    have hi : PI X tgx iter (TSrc G true true (den φ κ s).I) := by
      have := os h4 X0
      rw [show Snd Γ φ κ X G s (.i true tgx iter) = PI X tgx iter (TSrc G (puc s) true (den φ κ s).I) from rfl, h3] at this
      exact this
    have hg : ∀ (s : Shared) (H : Hp) (A : Addr) (cl : List (Str × Addr)) (fp : List Addr), PG (X.blk s H scope (compEnvC scope cl A X.env) fp) tgx (fun v σ H Q => ∃ B, TPat (G.at B) p v σ H Q) :=
      fun s H A cl fp => ex_pg fun B => chkP_ok ((X0.blk scope s H A cl fp).at B) p _ h5
    have he : ∀ (s : Shared) (H : Hp) (A : Addr) (cl : List (Str × Addr)) (fp : List Addr), PE (X.blk s H scope (compEnvC scope cl A X.env) fp) elt (fun σ H Q => ∃ B, T (G.at B) .sh true (den φ κ e).E σ H Q) :=
      fun s H A cl fp => ex_pe fun B => oe.sh h11 h9 h10 ((X0.blk scope s H A cl fp).at B)
    have ht : ∀ (s : Shared) (H : Hp) (A : Addr) (cl : List (Str × Addr)) (fp : List Addr), PTs (X.blk s H scope (compEnvC scope cl A X.env) fp) ifs (fun σ H Q => ∃ B, TB (G.at B) true (den φ κ c).T σ H Q) := by
      intro s H A cl fp
      refine ex_pts fun B => ?_
      split at h6
      · cases c with
        | yes => exact pts_y
        | _ => cases h6
      · exact pts_one (oc h6 ((X0.blk scope s H A cl fp).at B)).1
      · cases h6
    have wl : ∀ σ H Q, T G .ow true (mLc (den φ κ s).I p (den φ κ c).T (den φ κ e).E own) σ H Q → tLc (TSrc G true true (den φ κ s).I) (fun v σ H Q => ∃ B, TPat (G.at B) p v σ H Q) (fun σ H Q => ∃ B, TB (G.at B) true (den φ κ c).T σ H Q) (fun σ H Q => ∃ B, T (G.at B) .sh true (den φ κ e).E σ H Q) ((ownP Γ.N own).map (·.2)) σ H Q := by
      intro σ H Q q
      rw [ownP_snd]
      exact w_lc (G := G) (B := G.B) (fixC_ok φ c h7).2.1 (fixC_ok φ e h8).1 (fun j hj => of_decide_eq_true (List.all_eq_true.mp h12 j hj)) (fun j hj => X0.k0 (List.all_eq_true.mp h13 j hj))
        (fun B σ H Q q => ⟨B, q⟩) (fun B σ H Q q => ⟨B, q⟩) (fun B v σ H Q q => ⟨B, q⟩) σ H Q q
    have pe : PE X (.ListComp elt [⟨tgx, iter, ifs, 0⟩] scope pos) (T G .ow true (mLc (den φ κ s).I p (den φ κ c).T (den φ κ e).E own)) := PE.weak (pe_lc X0.calm X0.nd' hi hb hg ht he (fold_of h2)) wl
    cases t with
    | true => exact ⟨t_val (T.br_of_sh (T.sh_of_ow pe)) rfl, fun z => nomatch z⟩
    | false =>
      refine ⟨pe, fun {i y py spos} a b l d => ?_⟩
      have sw : swapsWith (.ListComp elt [⟨tgx, iter, ifs, 0⟩] scope pos) (some (.Name y py)) spos.line X.env = pure (X.env.blockKind == .function && X.env.kindOf y == some .local && py.line == pos.line && !(scope.names.any fun (n, k) => n == y && (k == .local || k == .cell))) := rfl
      cases ec : (X.env.blockKind == .function && X.env.kindOf y == some .local && py.line == pos.line && !(scope.names.any fun (n, k) => n == y && (k == .local || k == .cell))) with
      | false => exact ps_set a b l pe (by rw [sw, ec]) d
      | true =>
        have ec' := ec
        simp only [Bool.and_eq_true] at ec'
        have hy : X.env.scope.names.lookup y = some .local := by
          have := ec'.1.1.2
          exact eq_of_beq this
        exact PS.weak (ps_setLc X0.calm a b hy (by rw [sw, ec]) hi hb hg ht he (fold_of h2)) fun D σ H q => wl σ H _ q
  · cases h
theorem ok_seq {a : C} (oa : Ok Γ φ κ a) : Ok Γ φ κ (.seq a) := by
  intro lvl G sc fn X tg h X0
  unfold chk at h
  split at h
  · rename_i pl tgx x
    simp only [Bool.and_eq_true] at h
    have z := i_sh (tg := tgx) X0.K (toSh h.1 (oa.pe h.2 X0))
    cases pl with
    | false => exact z
    | true => exact i_pl z
  · cases h
theorem ok_seqB {a : C} (oa : Ok Γ φ κ a) : Ok Γ φ κ (.seqB a) := by
  intro lvl G sc fn X tg h X0
  unfold chk at h
  split at h
  · simp only [Bool.and_eq_true] at h
    exact i_br X0.K (oa.br h.2 h.1 X0)
  · cases h
theorem ok_r1 {a : C} (oa : Ok Γ φ κ a) : Ok Γ φ κ (.r1 a) := by
  intro lvl G sc fn X tg h X0
  unfold chk at h
  split at h
  · simp only [Bool.and_eq_true, decide_eq_true_eq] at h
    obtain ⟨⟨⟨⟨⟨h1, h2⟩, h3⟩, h4⟩, h5⟩, h6⟩ := h
    subst h1
    exact i_r1 (X0.gl h2).1 (X0.mg _ (by decide +kernel)) (oa.sh h6 h4 h5 X0) h3
  · cases h
theorem ok_r2 {a b : C} (oa : Ok Γ φ κ a) (ob : Ok Γ φ κ b) : Ok Γ φ κ (.r2 a b) := by
  intro lvl G sc fn X tg h X0
  unfold chk at h
  split at h
  · simp only [Bool.and_eq_true, decide_eq_true_eq] at h
    obtain ⟨⟨⟨⟨⟨⟨⟨⟨⟨h1, h2⟩, h3⟩, h4⟩, h5⟩, h6⟩, h7⟩, h8⟩, h9⟩, h10⟩ := h
    subst h1
    exact i_r2 (X0.gl h2).1 (X0.mg _ (by decide +kernel)) (oa.sh h9 h5 h6 X0) (ob.sh h10 h7 h8 X0) h3 h4
  · cases h
theorem ok_zip {a b : C} (oa : Ok Γ φ κ a) (ob : Ok Γ φ κ b) : Ok Γ φ κ (.zip a b) := by
  intro lvl G sc fn X tg h X0
  unfold chk at h
  split at h
  · rename_i pl _ _ _ _ _ _ _ _
    simp only [Bool.and_eq_true, decide_eq_true_eq] at h
    obtain ⟨⟨⟨⟨⟨⟨⟨⟨⟨h1, h2⟩, h3⟩, h4⟩, h5⟩, h6⟩, h7⟩, h8⟩, h9⟩, h10⟩ := h
    subst h1
    have z := fun {el kk tp p q} => i_zip (elts := el) (kk := kk) (tpos := tp) (p := p) (pos := q) X0.K (X0.gl h2).1 (X0.mg _ (by decide +kernel)) (oa.sh h9 h5 h6 X0) (ob.sh h10 h7 h8 X0) h3 h4
    cases pl with
    | false => exact z
    | true => exact i_pl z
  · cases h
theorem ok_enum {a : C} (oa : Ok Γ φ κ a) : Ok Γ φ κ (.enum a) := by
  intro lvl G sc fn X tg h X0
  unfold chk at h
  split at h
  · rename_i pl _ _ _ _ _ _ _
    simp only [Bool.and_eq_true, decide_eq_true_eq] at h
    obtain ⟨⟨⟨⟨h1, h2⟩, h3⟩, h4⟩, h5⟩ := h
    subst h1
    have z := fun {el kk tp p q} => i_enumT (elts := el) (kk := kk) (tpos := tp) (p := p) (pos := q) X0.K (X0.gl h2).1 (X0.mg _ (by decide +kernel)) (toSh h4 (oa.pe h5 X0)) h3
    cases pl with
    | false => exact z
    | true => exact i_pl z
  · cases h
end
end EV
namespace EV
open PySem PySem.Spec PyProof.Rows L2 RZ C8
theorem kind_eq {k : ScopeKind} (h : (match k with | .function => true | _ => false) = true) : k = .function := by
  cases k <;> first | rfl | cases h
theorem nostar_any {es : List Expr} (h : es.all notStar = true) : (es.any fun | .Starred .. => true | _ => false) = false := by
  induction es with
  | nil => rfl
  | cons e es ih =>
    rw [List.all_cons, Bool.and_eq_true] at h
    rw [List.any_cons, ih h.2]
    cases e <;> first | rfl | cases h.1
theorem sw2 {x y : Str} {px py pt pt2 : Pos} {a b : Expr} {kt k2 : Nat} {env : Env} (hk : env.scope.kind = .function) (hx : env.scope.names.lookup x = some .local) (hy : env.scope.names.lookup y = some .local) (hl : (py.line == px.line) = true) (hne : (x == y) = false) (hne2 : (y == x) = false)
    (hs : [a, b].all notStar = true) (hf : [a, b].all (foldedForSure 8) = false) (hc : [a, b].all (constantsAlone 8) = false) :
    swappedStores [.Tuple [.Name x px, .Name y py] kt pt] (.Tuple [a, b] k2 pt2) env = pure (some [x, y]) := by
  have hb : env.blockKind = .function := by unfold Env.blockKind; rw [hk]; rfl
  have kx : env.kindOf x = some .local := hx
  have ky : env.kindOf y = some .local := hy
  have hst := nostar_any hs
  have hn : [Expr.Name x px, Expr.Name y py].filterMap (fun | .Name id pos => if env.kindOf id == some .local && pos.line == px.line then some id else none | _ => none) = [x, y] := by
    have e1 : (px.line == px.line) = true := beq_self_eq_true _
    simp only [List.filterMap_cons, List.filterMap_nil, kx, ky, hl, e1]
    rfl
  have hd : ([x, y].eraseDups.length != [x, y].length) = false := by
    simp [List.eraseDups, List.eraseDupsBy, List.eraseDupsBy.loop, hne, hne2]
  unfold swappedStores
  refine Eq.trans (if_neg (by rw [hb]; exact fun z => Bool.false_ne_true z)) ?_
  refine Eq.trans (if_neg (by rw [Bool.not_eq_true]; exact hst)) ?_
  refine Eq.trans (if_neg (?_ : ¬ ((List.filterMap _ [Expr.Name x px, Expr.Name y py]).length != 2 || _) = true)) ?_
  · erw [hn]
    rw [Bool.not_eq_true, hd]
    rfl
  refine Eq.trans (if_neg (by rw [Bool.not_eq_true]; exact hf)) ?_
  refine Eq.trans (if_neg (by rw [Bool.not_eq_true]; exact hc)) ?_
  exact congrArg (fun l => (pure (some l) : Sem (Option (List Str)))) hn
theorem sw3 {x y z : Str} {px py pz pt pt2 : Pos} {a b c : Expr} {kt k2 : Nat} {env : Env} (hk : env.scope.kind = .function) (hx : env.scope.names.lookup x = some .local) (hy : env.scope.names.lookup y = some .local) (hz : env.scope.names.lookup z = some .local)
    (hl : (py.line == px.line) = true) (hl2 : (pz.line == px.line) = true) (hd : [x, y, z].eraseDups.length = 3)
    (hs : [a, b, c].all notStar = true) (hf : [a, b, c].all (foldedForSure 8) = false) (hc : [a, b, c].all (constantsAlone 8) = false) :
    swappedStores [.Tuple [.Name x px, .Name y py, .Name z pz] kt pt] (.Tuple [a, b, c] k2 pt2) env = pure (some [x, y, z]) := by
  have hb : env.blockKind = .function := by unfold Env.blockKind; rw [hk]; rfl
  have kx : env.kindOf x = some .local := hx
  have ky : env.kindOf y = some .local := hy
  have kz : env.kindOf z = some .local := hz
  have hst := nostar_any hs
  have hn : [Expr.Name x px, Expr.Name y py, Expr.Name z pz].filterMap (fun | .Name id pos => if env.kindOf id == some .local && pos.line == px.line then some id else none | _ => none) = [x, y, z] := by
    have e1 : (px.line == px.line) = true := beq_self_eq_true _
    simp only [List.filterMap_cons, List.filterMap_nil, kx, ky, kz, hl, hl2, e1]
    rfl
  have hd : ([x, y, z].eraseDups.length != [x, y, z].length) = false := by
    rw [hd]
    rfl
  unfold swappedStores
  refine Eq.trans (if_neg (by rw [hb]; exact fun z => Bool.false_ne_true z)) ?_
  refine Eq.trans (if_neg (by rw [Bool.not_eq_true]; exact hst)) ?_
  refine Eq.trans (if_neg (?_ : ¬ ((List.filterMap _ [Expr.Name x px, Expr.Name y py, Expr.Name z pz]).length != 3 || _) = true)) ?_
  · erw [hn]
    rw [Bool.not_eq_true, hd]
    rfl
  refine Eq.trans (if_neg (by rw [Bool.not_eq_true]; exact hf)) ?_
  refine Eq.trans (if_neg (by rw [Bool.not_eq_true]; exact hc)) ?_
  exact congrArg (fun l => (pure (some l) : Sem (Option (List Str)))) hn
theorem if4 {α : Type} {c1 c2 c3 c4 : Prop} [Decidable c1] [Decidable c2] [Decidable c3] [Decidable c4] {n e : α} (h : c1 ∨ c3 ∨ c4) : (if c1 then n else if c2 then n else if c3 then n else if c4 then n else e) = n := by
  by_cases h1 : c1
  · exact if_pos h1
  · rw [if_neg h1]
    by_cases h2 : c2
    · exact if_pos h2
    · rw [if_neg h2]
      by_cases h3 : c3
      · exact if_pos h3
      · rw [if_neg h3]
        exact if_pos ((h.resolve_left h1).resolve_left h3)
theorem fm_len {α β : Type} {f : α → Option β} : ∀ {l : List α}, (l.any fun a => (f a).isNone) = true → (l.filterMap f).length < l.length
  | a :: l, h => by
    rw [List.any_cons, Bool.or_eq_true] at h
    rw [List.filterMap_cons]
    cases e : f a with
    | none => exact Nat.lt_succ_of_le (List.length_filterMap_le f l)
    | some b =>
      rw [e] at h
      exact Nat.succ_lt_succ (fm_len (h.resolve_left (fun z => nomatch z)))
theorem sw_len {ts es : List Expr} {b : Bool} (h : (!(es.length == 2 || es.length == 3)) = true) : (!(ts.length == 2 || ts.length == 3) || es.length != ts.length || b) = true := by
  by_cases e : es.length = ts.length
  · rw [← e, h]; rfl
  · simp [e]
theorem any_imp {α : Type} {f g : α → Bool} {l : List α} (h : ∀ a, f a = true → g a = true) (e : l.any f = true) : l.any g = true := by
  obtain ⟨a, ha, hf⟩ := List.any_eq_true.mp e
  exact List.any_eq_true.mpr ⟨a, ha, h a hf⟩
theorem sw_none {t y : Expr} {env : Env} (h : swN env.scope t y = true) : swappedStores [t] y env = pure none := by
  unfold swN at h
  rw [Bool.or_eq_true] at h
  cases y with
  | Tuple es k p =>
    have h' : (!(es.length == 2 || es.length == 3)) = true ∨ anyN env.scope t = true ∨ es.all (foldedForSure 8) = true := by
      rcases h with h | h
      · unfold notTup at h
        rw [Bool.or_eq_true] at h
        exact h.imp id .inr
      · exact .inr (.inl h)
    cases t with
    | Tuple ts k2 p2 =>
      unfold swappedStores
      refine if4 (h'.imp sw_len (Or.imp (fun z => ?_) id))
      rw [Bool.or_eq_true]
      left
      rw [bne_iff_ne]
      refine Nat.ne_of_lt (fm_len (any_imp (fun x hx => ?_) z))
      cases x with
      | Name n pos =>
        have hx' : (!(lcl env.scope n)) = true := hx
        show (if env.kindOf n == some .local && _ then some n else none).isNone = true
        have : (env.kindOf n == some .local) = false := by
          unfold lcl at hx'
          show (env.scope.names.lookup n == some .local) = false
          cases e : env.scope.names.lookup n with
          | none => rfl
          | some k => rw [e] at hx'; cases k <;> first | rfl | cases hx'
        rw [this]
        rfl
      | _ => rfl
    | List ts p2 =>
      unfold swappedStores
      exact if4 (h'.imp sw_len fun z => .inr (z.resolve_left fun q => nomatch q))
    | _ => rfl
  | _ => cases t <;> rfl
section
variable {Γ : Gm} {φ : Nat → List D → R D} {κ : Nat → D}
theorem ok_skip : Ok Γ φ κ .skip := by
  intro lvl G sc fn X tg h X0
  unfold chk at h
  split at h
  · exact s_nil
  · cases h
theorem ok_sq {a b : C} (oa : Ok Γ φ κ a) (ob : Ok Γ φ κ b) : Ok Γ φ κ (.sq a b) := by
  intro lvl G sc fn X tg h X0
  unfold chk at h
  split at h
  · rename_i ro s r
    rw [Bool.and_eq_true] at h
    exact s_cons (oa (tg := .s ro s) h.1 X0) (ob (tg := .b ro r) h.2 X0)
  · cases h
theorem ok_pass : Ok Γ φ κ .pass := by
  intro lvl G sc fn X tg h X0
  obtain ⟨t, x, rfl, hq⟩ := onS_of h
  replace h := hq
  split at h
  · exact s_pass
  · cases h
theorem ok_brk : Ok Γ φ κ .brk := by
  intro lvl G sc fn X tg h X0
  obtain ⟨t, x, rfl, hq⟩ := onS_of h
  replace h := hq
  split at h
  · exact s_brk
  · cases h
theorem ok_cnt : Ok Γ φ κ .cnt := by
  intro lvl G sc fn X tg h X0
  obtain ⟨t, x, rfl, hq⟩ := onS_of h
  replace h := hq
  split at h
  · exact s_cnt
  · cases h
theorem ok_ret {a : C} (oa : Ok Γ φ κ a) : Ok Γ φ κ (.ret a) := by
  intro lvl G sc fn X tg h X0
  obtain ⟨ro, x, rfl, hq⟩ := onS_of h
  replace h := hq
  split at h
  · rw [Bool.and_eq_true] at h
    cases ro with
    | true => exact s_ret (ro := true) (toOw h.1 (oa.pe h.2 X0))
    | false => exact s_ret (ro := false) (toSh h.1 (oa.pe h.2 X0))
  · cases h
theorem ok_retN : Ok Γ φ κ .retN := by
  intro lvl G sc fn X tg h X0
  obtain ⟨ro, x, rfl, hq⟩ := onS_of h
  replace h := hq
  split at h
  · cases ro with
    | true => cases h
    | false => exact s_retN
  · cases h
theorem ok_ifs {t a b : C} (ot : Ok Γ φ κ t) (oa : Ok Γ φ κ a) (ob : Ok Γ φ κ b) : Ok Γ φ κ (.ifs t a b) := by
  intro lvl G sc fn X tg h X0
  obtain ⟨ro, x, rfl, hq⟩ := onS_of h
  replace h := hq
  split at h
  · rename_i w y z p
    simp only [Bool.and_eq_true] at h
    exact s_if (ot h.1.1 X0).1 (oa (tg := .b ro y) h.1.2 X0) (ob (tg := .b ro z) h.2 X0)
  · cases h
theorem w_asn {G : Cn} {ro pu : Bool} {i : Nat} {m : ME} (hk : G.kd i = false) (Dn : Ends) (σ : L2.St) (H : Hp) (q : TSm G ro (sAs (.nm i) m) Dn σ H) : tAsg (T G .sh pu m) (gName i) Dn σ H := by
  obtain ⟨st, O, S, q⟩ := q
  exact ⟨st, O, S, R.all_mono (fun x q v H1 O1 s1 S1 r1 => q _ H1 O1 s1.weak (S1.putS hk r1)) (R.all_bind q)⟩
theorem one_asg {t : Expr} {env : Env} (h : notStar t = true) : (assignEach [t] env).map (·.2) = [assign t env] := by
  cases t <;> first | rfl | cases h
theorem ok_asg (p : Pat) {a : C} (oa : Ok Γ φ κ a) : Ok Γ φ κ (.asg p a) := by
  intro lvl G sc fn X tg h X0
  obtain ⟨ro, x, rfl, hq⟩ := onS_of h
  replace h := hq
  split at h
  · rename_i t y pos
    simp only [Bool.and_eq_true] at h
    obtain ⟨⟨h1, h2⟩, h3⟩ := h
    have pa := peaSh h1 (show PEA X y (T G (kdc Γ a) (puc a) (den φ κ a).E) from oa h2 X0)
    split at h3
    · split at h3
      · simp only [Bool.and_eq_true] at h3
        obtain ⟨⟨g1, g2⟩, g3⟩ := h3
        exact PS.weak (pa.asg X0.nd' (X0.nm g1) (X0.loc g2).1 (X0.loc g2).2) (w_asn (X0.k0 g3))
      · cases h3
    · rename_i q
      simp only [Bool.and_eq_true] at h3
      obtain ⟨g1, g2⟩ := h3
      have hg : PG X t (TPat G (.tp q)) := chkP_ok X0 _ _ g1
      have hst : notStar t = true := by
        unfold chkP at g1
        split at g1
        · rename_i es k p0 e
          cases e
          rfl
        · cases g1
      have hswap : swapsWithSole [t] y pos.line X.env = pure false := by
        unfold chkP at g1
        split at g1
        · rename_i es k p0 e
          cases e
          cases y <;> rfl
        · cases g1
      exact PS.weak (ps_asg pa.pe hg hswap (sw_none (by rw [X0.sc]; exact g2)) (one_asg hst)) w_as
    · cases h3
  · cases h
theorem ok_aso (i : Nat) {a : C} (oa : Ok Γ φ κ a) : Ok Γ φ κ (.aso i a) := by
  intro lvl G sc fn X tg h X0
  obtain ⟨ro, x, rfl, hq⟩ := onS_of h
  replace h := hq
  split at h
  · rename_i n p0 y pos
    simp only [Bool.and_eq_true] at h
    obtain ⟨⟨⟨⟨h1, h2⟩, h3⟩, h4⟩, h5⟩ := h
    have pa := peaOw h4 (show PEA X y (T G (kdc Γ a) (puc a) (den φ κ a).E) from oa h5 X0)
    exact PS.weak (pa.asg X0.nd' (X0.nm h1) (X0.loc h2).1 (X0.loc h2).2) (w_ao (X0.k1 h3))
  · cases h
theorem ok_for {s b : C} (p : Pat) (os : Ok Γ φ κ s) (ob : Ok Γ φ κ b) : Ok Γ φ κ (.for_ s p b) := by
  intro lvl G sc fn X tg h X0
  obtain ⟨ro, x, rfl, hq⟩ := onS_of h
  replace h := hq
  split at h
  · rename_i t iter body pos
    simp only [Bool.and_eq_true] at h
    obtain ⟨⟨⟨h1, h2⟩, h3⟩, h4⟩ := h
    exact PS.weak (ps_for X0.pass X0.calm (os (tg := .i false t iter) h2 X0) (chkP_ok X0 p (.inl t) h3) (ob (tg := .b ro body) h4 X0) (fold_of h1)) w_for
  · cases h
theorem ok_wh (n : Nat) {t b : C} (ot : Ok Γ φ κ t) (ob : Ok Γ φ κ b) : Ok Γ φ κ (.wh n t b) := by
  intro lvl G sc fn X tg h X0
  obtain ⟨ro, x, rfl, hq⟩ := onS_of h
  replace h := hq
  split at h
  · rename_i w body pos
    rw [Bool.and_eq_true] at h
    exact PS.weak (ps_while X0.pass (ot h.1 X0).1 (ob (tg := .b ro body) h.2 X0)) w_wh
  · cases h
theorem ok_app (i : Nat) {a : C} (oa : Ok Γ φ κ a) : Ok Γ φ κ (.app i a) := by
  intro lvl G sc fn X tg h X0
  obtain ⟨ro, x, rfl, hq⟩ := onS_of h
  replace h := hq
  split at h
  · simp only [Bool.and_eq_true, decide_eq_true_eq] at h
    obtain ⟨⟨⟨⟨⟨⟨⟨h1, h2⟩, h3⟩, h4⟩, h5⟩, h6⟩, h7⟩, h8⟩ := h
    subst h1
    obtain ⟨v1, v2, v3⟩ := X0.vis h4
    have hK := X0.K
    exact PS.weak (ps_expr (pe_bm PySem.F.plainAttrs_list PySem.F.slot_list_append PySem.F.type_list_append mt_append (pe_var (X0.nm h3) v1 v2 v3) (pa_cons (toSh h7 (oa.pe h8 X0)) pa_nil (star_of h6)) rfl (by rw [star_of h6]; rfl) h2 (star_of h6) rfl) rfl) (by rw [hK]; exact w_app (X0.k1 h5))
  · cases h
theorem ok_ext (i : Nat) {a : C} (oa : Ok Γ φ κ a) : Ok Γ φ κ (.ext i a) := by
  intro lvl G sc fn X tg h X0
  obtain ⟨ro, x, rfl, hq⟩ := onS_of h
  replace h := hq
  split at h
  · simp only [Bool.and_eq_true, decide_eq_true_eq] at h
    obtain ⟨⟨⟨⟨⟨⟨⟨h1, h2⟩, h3⟩, h4⟩, h5⟩, h6⟩, h7⟩, h8⟩ := h
    subst h1
    obtain ⟨v1, v2, v3⟩ := X0.vis h4
    have hK := X0.K
    exact PS.weak (ps_expr (pe_bm PySem.F.plainAttrs_list PySem.F.slot_list_extend PySem.F.type_list_extend mt_extend (pe_var (X0.nm h3) v1 v2 v3) (pa_cons (toOw h7 (oa.pe h8 X0)) pa_nil (star_of h6)) rfl (by rw [star_of h6]; rfl) h2 (star_of h6) rfl) rfl) (by rw [hK]; exact w_ext (X0.k1 h5))
  · cases h
theorem ok_nev : Ok Γ φ κ .nev := by
  intro lvl G sc fn X tg h X0
  unfold chk at h
  split at h
  · exact PS.weak ps_never fun D σ H q => by obtain ⟨_, _, _, q⟩ := q; exact q.elim
  · exact PSs.weak pss_never fun D σ H q => by obtain ⟨_, _, _, q⟩ := q; exact q.elim
  · cases h
theorem ok_fgt (ks : List Nat) {a : C} (oa : Ok Γ φ κ a) : Ok Γ φ κ (.fgt ks a) := by
  intro lvl G sc fn X tg h X0
  unfold chk at h
  split at h
  · rename_i ro x
    exact PS.weak (oa (tg := .s ro x) h X0) w_fgt
  · rename_i ro xs
    exact PSs.weak (oa (tg := .b ro xs) h X0) w_fgt
  · cases h
theorem ok_doc : Ok Γ φ κ .doc := by
  intro lvl G sc fn X tg h X0
  obtain ⟨ro, x, rfl, hq⟩ := onS_of h
  replace h := hq
  split at h
  · exact PS.weak ps_doc fun D σ H q => by
      obtain ⟨st, O, S, q⟩ := q
      exact q σ H O Stp.refl S
  · cases h
theorem ok_drp {a : C} (oa : Ok Γ φ κ a) : Ok Γ φ κ (.drp a) := by
  intro lvl G sc fn X tg h X0
  obtain ⟨ro, x, rfl, hq⟩ := onS_of h
  replace h := hq
  split at h
  · simp only [Bool.and_eq_true] at h
    obtain ⟨⟨h1, h2⟩, h3⟩ := h
    exact PS.weak (ps_expr (toSh h2 (oa.pe h3 X0)) (sw_no h1)) w_drp
  · cases h
theorem ok_par (is : List Nat) {l : C} (ol : Ok Γ φ κ l) : Ok Γ φ κ (.par is l) := by
  intro lvl G sc fn X tg h X0
  obtain ⟨ro, x, rfl, hq⟩ := onS_of h
  replace h := hq
  split at h
  · rename_i ts k1 p1 es k2 p2 pos
    rw [Bool.and_eq_true] at h
    have hl : PA X es (TL G (puc l) (den φ κ l).L) := ol (tg := .l es) h.2 X0
    have h1 := h.1
    unfold parB at h1
    simp only [Bool.and_eq_true, Bool.not_eq_true'] at h1
    obtain ⟨⟨⟨⟨g1, g2⟩, g3⟩, g4⟩, g5⟩ := h1
    have hk : X.env.scope.kind = .function := by rw [X0.sc]; exact kind_eq g2
    split at g1
    · simp only [Bool.and_eq_true, Bool.not_eq_true'] at g1
      obtain ⟨⟨⟨⟨⟨⟨⟨⟨⟨a1, a2⟩, a3⟩, a4⟩, a5⟩, a6⟩, a7⟩, a8⟩, a9⟩, a10⟩ := g1
      have k5 : G.kd _ = false := X0.k0 (by rw [a5]; rfl)
      have k6 : G.kd _ = false := X0.k0 (by rw [a6]; rfl)
      exact PS.weak (ps_par X0.calm X0.nd' (X0.nm a1) (X0.nm a2) (by simpa using a7) (X0.lcl a3) (X0.lcl a4) hl (sw2 hk (X0.lcl a3) (X0.lcl a4) a10 a8 a9 g3 g4 g5) rfl) (w_par2 k5 k6)
    · simp only [Bool.and_eq_true, Bool.not_eq_true', decide_eq_true_eq] at g1
      obtain ⟨⟨⟨⟨⟨⟨⟨⟨⟨⟨⟨⟨⟨⟨a1, a2⟩, a3⟩, a4⟩, a5⟩, a6⟩, a7⟩, a8⟩, a9⟩, b1⟩, b2⟩, b3⟩, b4⟩, b5⟩, b6⟩ := g1
      have k5 : G.kd _ = false := X0.k0 (by rw [a7]; rfl)
      have k6 : G.kd _ = false := X0.k0 (by rw [a8]; rfl)
      have k7 : G.kd _ = false := X0.k0 (by rw [a9]; rfl)
      exact PS.weak (ps_par3 X0.calm X0.nd' (X0.nm a1) (X0.nm a2) (X0.nm a3) (by simpa using b1) (by simpa using b2) (by simpa using b3) (X0.lcl a4) (X0.lcl a5) (X0.lcl a6) hl (sw3 hk (X0.lcl a4) (X0.lcl a5) (X0.lcl a6) b5 b6 b4 g3 g4 g5) rfl) (w_par3 k5 k6 k7)
    · cases g1
  · cases h
theorem ok_aug (f : Bool) (i : Nat) {a : C} (oa : Ok Γ φ κ a) : Ok Γ φ κ (.aug f i a) := by
  intro lvl G sc fn X tg h X0
  obtain ⟨ro, x, rfl, hq⟩ := onS_of h
  replace h := hq
  split at h
  · simp only [Bool.and_eq_true] at h
    obtain ⟨⟨⟨⟨⟨h1, h2⟩, h3⟩, h4⟩, h5⟩, h6⟩ := h
    have ha := toSh h5 (oa.pe h6 X0)
    split at h1
    · exact PS.weak (ps_aug X0.nd' (X0.nm h2) (X0.loc h3).1 ha ip_add (X0.loc h3).2) (w_aug (X0.k0 h4))
    · exact PS.weak (ps_aug X0.nd' (X0.nm h2) (X0.loc h3).1 ha ip_sub (X0.loc h3).2) (w_aug (X0.k0 h4))
    · cases h1
  · cases h
theorem sw_sub {o z y : Expr} {p : Pos} {env : Env} : swappedStores [.Subscript o z p] y env = pure none := by
  cases y <;> rfl
theorem ok_set (i : Nat) {k v : C} (ok : Ok Γ φ κ k) (ov : Ok Γ φ κ v) : Ok Γ φ κ (.set i k v) := by
  intro lvl G sc fn X tg h X0
  obtain ⟨ro, x, rfl, hq⟩ := onS_of h
  replace h := hq
  split at h
  · rename_i n p1 z p2 y pos
    simp only [Bool.and_eq_true] at h
    obtain ⟨⟨⟨⟨⟨⟨⟨⟨⟨h1, h2⟩, h3⟩, h4⟩, h5⟩, h6⟩, h7⟩, h8⟩, h9⟩, h10⟩ := h
    obtain ⟨v1, v2, v3⟩ := X0.vis h2
    have hv := toSh h6 (ov.pe h9 X0)
    have hkk := ok.sh h10 h7 h8 X0
    have hsw : ∀ t : Expr, swapsWithSole [t] y pos.line X.env = pure false := fun t => sw_no h5
    exact PS.weak (ps_asg hv (pg_sub (pe_var (X0.nm h1) v1 v2 v3) hkk set_list (by intro v; cases z <;> first | rfl | cases h4)) (hsw _) sw_sub rfl) (w_set (X0.k1 h3))
  · cases h
theorem ok_parO (i j : Nat) {a b : C} (oa : Ok Γ φ κ a) (ob : Ok Γ φ κ b) : Ok Γ φ κ (.parO i j a b) := by
  intro lvl G sc fn X tg h X0
  obtain ⟨ro, x, rfl, hq⟩ := onS_of h
  replace h := hq
  split at h
  · rename_i n p m q _ _ y z _ _ pos
    simp only [Bool.and_eq_true, Bool.not_eq_true'] at h
    obtain ⟨⟨⟨⟨⟨⟨⟨⟨⟨⟨⟨⟨⟨⟨⟨⟨⟨⟨a1, a2⟩, a3⟩, a4⟩, a5⟩, a6⟩, a7⟩, a8⟩, a9⟩, b1⟩, b2⟩, b3⟩, b4⟩, b5⟩, b6⟩, b7⟩, b8⟩, b9⟩, c1⟩ := h
    have hk : X.env.scope.kind = .function := by rw [X0.sc]; exact kind_eq b2
    have ha := toOw b6 (oa.pe b9 X0)
    have hb : ∀ B, PE X z (T (G.at B) .ow true (den φ κ b).E) := fun B => by
      have := toOw b7 (ob.pe c1 (X0.at B))
      rw [b8] at this
      exact this
    have b3' := b3
    rw [List.all_cons, Bool.and_eq_true] at b3'
    have b3'' := b3'.2
    rw [List.all_cons, Bool.and_eq_true] at b3''
    have hp := pa_cons ha (pa_cons (ex_pe hb) pa_nil (star_of b3''.1)) (star_of b3'.1)
    exact PS.weak (ps_par X0.calm X0.nd' (X0.nm a1) (X0.nm a2) (by simpa using a7) (X0.lcl a3) (X0.lcl a4) hp (sw2 hk (X0.lcl a3) (X0.lcl a4) b1 a8 a9 b3 b4 b5) rfl) (w_parO (X0.k1 a5) (X0.k1 a6) (by simpa using a7))
  · cases h
theorem ok_augS (f : Bool) (i : Nat) {k v : C} (ok : Ok Γ φ κ k) (ov : Ok Γ φ κ v) : Ok Γ φ κ (.augS f i k v) := by
  intro lvl G sc fn X tg h X0
  obtain ⟨ro, x, rfl, hq⟩ := onS_of h
  replace h := hq
  split at h
  · simp only [Bool.and_eq_true] at h
    obtain ⟨⟨⟨⟨⟨⟨⟨⟨⟨⟨h1, h2⟩, h3⟩, h4⟩, h5⟩, h6⟩, h7⟩, h8⟩, h9⟩, h10⟩, h11⟩ := h
    rename_i n p1 z p2 op y pos
    have hz : ∀ ov iv new, augStore z ov iv new = (do holding [new, ov, iv] (setItem ov iv new); release [new, ov, iv] []; pure .next) := by
      intro ov iv new
      cases z <;> first | rfl | cases h11
    obtain ⟨v1, v2, v3⟩ := X0.vis h3
    have hkk := ok.sh h9 h5 h6 X0
    have hvv := ov.sh h10 h7 h8 X0
    have hK := X0.K
    split at h1
    · exact PS.weak (ps_augS (pe_var (X0.nm h2) v1 v2 v3) hkk L2.get_list hvv ip_add set_list hz) (by rw [hK]; exact w_augS (X0.k1 h4))
    · exact PS.weak (ps_augS (pe_var (X0.nm h2) v1 v2 v3) hkk L2.get_list hvv ip_sub set_list hz) (by rw [hK]; exact w_augS (X0.k1 h4))
    · cases h1
  · cases h
theorem ok_parSO (i j : Nat) {a b : C} (oa : Ok Γ φ κ a) (ob : Ok Γ φ κ b) : Ok Γ φ κ (.parSO i j a b) := by
  intro lvl G sc fn X tg h X0
  obtain ⟨ro, x, rfl, hq⟩ := onS_of h
  replace h := hq
  split at h
  · rename_i n p m q _ _ y z _ _ pos
    simp only [Bool.and_eq_true, Bool.not_eq_true'] at h
    obtain ⟨⟨⟨⟨⟨⟨⟨⟨⟨⟨⟨⟨⟨⟨⟨⟨⟨⟨a1, a2⟩, a3⟩, a4⟩, a5⟩, a6⟩, a7⟩, a8⟩, a9⟩, b1⟩, b2⟩, b3⟩, b4⟩, b5⟩, b6⟩, b7⟩, b8⟩, b9⟩, c1⟩ := h
    have hk : X.env.scope.kind = .function := by rw [X0.sc]; exact kind_eq b2
    have ha := toSh b6 (oa.pe b9 X0)
    have hb := toOw b7 (ob.pe c1 X0)
    rw [b8] at hb
    have b3' := b3
    rw [List.all_cons, Bool.and_eq_true] at b3'
    have b3'' := b3'.2
    rw [List.all_cons, Bool.and_eq_true] at b3''
    have hp := pa_cons ha (pa_cons hb pa_nil (star_of b3''.1)) (star_of b3'.1)
    exact PS.weak (ps_par X0.calm X0.nd' (X0.nm a1) (X0.nm a2) (by simpa using a7) (X0.lcl a3) (X0.lcl a4) hp (sw2 hk (X0.lcl a3) (X0.lcl a4) b1 a8 a9 b3 b4 b5) rfl) (w_parSO (X0.k0 (by rw [a5]; rfl)) (X0.k1 a6) (by simpa using a7))
  · cases h
theorem ok_parOOS (i j k : Nat) {a b c : C} (oa : Ok Γ φ κ a) (ob : Ok Γ φ κ b) (oc : Ok Γ φ κ c) : Ok Γ φ κ (.parOOS i j k a b c) := by
  intro lvl G sc fn X tg h X0
  obtain ⟨ro, x, rfl, hq⟩ := onS_of h
  replace h := hq
  split at h
  · rename_i n p m q o r _ _ y z w _ _ pos
    simp only [Bool.and_eq_true, Bool.not_eq_true', decide_eq_true_eq] at h
    obtain ⟨⟨⟨⟨⟨⟨⟨⟨⟨⟨⟨⟨⟨⟨⟨⟨⟨⟨⟨⟨⟨⟨⟨⟨⟨⟨a1, a2⟩, a3⟩, a4⟩, a5⟩, a6⟩, a7⟩, a8⟩, a9⟩, b1⟩, b2⟩, b3⟩, b4⟩, b5⟩, b6⟩, b7⟩, b8⟩, b9⟩, c1⟩, c2⟩, c3⟩, c4⟩, c5⟩, c6⟩, c7⟩, c8⟩, c9⟩ := h
    have hk : X.env.scope.kind = .function := by rw [X0.sc]; exact kind_eq b7
    have ha := toOw c2 (oa.pe c7 X0)
    have hb : ∀ B, PE X z (T (G.at B) .ow true (den φ κ b).E) := fun B => by
      have := toOw c3 (ob.pe c8 (X0.at B))
      rw [c4] at this
      exact this
    have hc : ∀ B, PE X w (T (G.at B) .sh true (den φ κ c).E) := fun B => oc.sh c9 c6 c5 (X0.at B)
    have s1 := b8
    rw [List.all_cons, Bool.and_eq_true] at s1
    have s2 := s1.2
    rw [List.all_cons, Bool.and_eq_true] at s2
    have s3 := s2.2
    rw [List.all_cons, Bool.and_eq_true] at s3
    have hp := pa_cons ha (pa_cons (ex_pe hb) (pa_cons (ex_pe hc) pa_nil (star_of s3.1)) (star_of s2.1)) (star_of s1.1)
    exact PS.weak (ps_par3 X0.calm X0.nd' (X0.nm a1) (X0.nm a2) (X0.nm a3) (by simpa using b1) (by simpa using b2) (by simpa using b3) (X0.lcl a4) (X0.lcl a5) (X0.lcl a6) hp (sw3 hk (X0.lcl a4) (X0.lcl a5) (X0.lcl a6) b5 b6 b4 b8 b9 c1) rfl) (w_parOOS (X0.k1 a7) (X0.k1 a8) (X0.k0 (by rw [a9]; rfl)) (by simpa using b1))
  · cases h
theorem ok_no {c : C} (h : ∀ sc fn tg, chk Γ c sc fn tg = false) : Ok Γ φ κ c := fun {_ _ sc fn _ tg} hh _ => by rw [h sc fn tg] at hh; cases hh
/-- every tree that is checked -/
theorem chk_ok : ∀ c : C, Ok Γ φ κ c := by
  intro c
  induction c with
  | k d => exact ok_k d
  | g j => exact ok_g j
  | v i => exact ok_v i
  | b i => exact ok_b i
  | m i => exact ok_m i
  | bin o a b iha ihb => exact ok_bin o iha ihb
  | cmp o a b iha ihb => exact ok_cmp o iha ihb
  | isN f a ih => exact ok_isN f ih
  | isB f a b iha ihb => exact ok_isB f iha ihb
  | chain o p a b c iha ihb ihc => exact ok_chain o p iha ihb ihc
  | neg a ih => exact ok_neg ih
  | not a ih => exact ok_not ih
  | and a b iha ihb => exact ok_and iha ihb
  | or a b iha ihb => exact ok_or iha ihb
  | one a ih => exact ok_one ih
  | ifx t a b iht iha ihb => exact ok_ifx iht iha ihb
  | nil => exact ok_nil
  | cons a b iha ihb => exact ok_cons iha ihb
  | tup l ih => exact ok_tup ih
  | lst l ih => exact ok_lst ih
  | ix a i iha ihi => exact ok_ix iha ihi
  | sl own a lo hi iha ihl ihh => exact ok_sl own iha ihl ihh
  | rev own a ih => exact ok_rev own ih
  | np => exact ok_np
  | pt a ih => exact ok_pt ih
  | c1 f a ih => exact ok_c1 f ih
  | list a ih => exact ok_list ih
  | sorted a ih => exact ok_sorted ih
  | isi ts a ih => exact ok_isi ts ih
  | fn j l ih => exact ok_fn j ih
  | lc own p s c e ihs ihc ihe => exact ok_lc own p ihs ihc ihe
  | yes => exact ok_no fun _ _ _ => rfl
  | seq a ih => exact ok_seq ih
  | seqB a ih => exact ok_seqB ih
  | r1 a ih => exact ok_r1 ih
  | r2 a b iha ihb => exact ok_r2 iha ihb
  | zip a b iha ihb => exact ok_zip iha ihb
  | pop i => exact ok_pop i
  | mm f a b iha ihb => exact ok_mm f iha ihb
  | aug f i a ih => exact ok_aug f i ih
  | set i k v ihk ihv => exact ok_set i ihk ihv
  | enum a ih => exact ok_enum ih
  | parO i j a b iha ihb => exact ok_parO i j iha ihb
  | rep a b iha ihb => exact ok_rep iha ihb
  | sset a ih => exact ok_sset ih
  | lset a ih => exact ok_lset ih
  | dic1 k v ihk ihv => exact ok_dic1 ihk ihv
  | cat a b iha ihb => exact ok_cat iha ihb
  | augS f i k v ihk ihv => exact ok_augS f i ihk ihv
  | parSO i j a b iha ihb => exact ok_parSO i j iha ihb
  | parOOS i j k a b c iha ihb ihc => exact ok_parOOS i j k iha ihb ihc
  | popAt i a ih => exact ok_popAt i ih
  | skip => exact ok_skip
  | sq a b iha ihb => exact ok_sq iha ihb
  | pass => exact ok_pass
  | brk => exact ok_brk
  | cnt => exact ok_cnt
  | ret a ih => exact ok_ret ih
  | retN => exact ok_retN
  | ifs t a b iht iha ihb => exact ok_ifs iht iha ihb
  | asg p a ih => exact ok_asg p ih
  | aso i a ih => exact ok_aso i ih
  | for_ s p b ihs ihb => exact ok_for p ihs ihb
  | wh n t b iht ihb => exact ok_wh n iht ihb
  | app i a ih => exact ok_app i ih
  | ext i a ih => exact ok_ext i ih
  | nev => exact ok_nev
  | doc => exact ok_doc
  | par is l ih => exact ok_par is ih
  | drp a ih => exact ok_drp ih
  | fgt ks a ih => exact ok_fgt ks ih
end
end EV
/-! a def by its tree -/
namespace EV
open PySem PySem.Spec PyProof.Rows L2 RZ
def retOf (ro : Bool) : Fl → R D
  | .rt d => .ok d
  | .nx _ => (match ro with | true => .bad | false => .ok .non)
  | _ => .bad
structure Fd where
  nm : Str
  ar : Nat
  ro : Bool
  N : List Str
  mu : List Nat
  body : C
def Fd.kd (f : Fd) (i : Nat) : Bool := f.mu.contains i
def init (n : Nat) (ds : List D) : AS := ds.map some ++ List.replicate (n - ds.length) none
def runB (φ : Nat → List D → R D) (κ : Nat → D) (f : Fd) (ds : List D) : R D := ((den φ κ f.body).M (init f.N.length ds)).bind (retOf f.ro)
def gmOf (F : List Fd) (cons : List Str) (f : Fd) : Gm := ⟨f.N, f.kd, cons, F.map fun g => (g.nm, g.ar, g.ro)⟩
theorem ShRs.get {K : PySem.W.Frag} {hd : Option Addr} {H : Hp} {F : Addr → Prop} : ∀ {vs : List V} {ds : List D} {i : Nat} {d : D}, ShRs K hd H F vs ds → ds[i]? = some d → ∃ v, vs[i]? = some v ∧ ShR K hd H F v d
  | _, _, _, _, .nil, e => by simp at e
  | _, _, 0, _, .cons h _, e => by simp at e; subst e; exact ⟨_, rfl, h⟩
  | _, _, i + 1, d, .cons _ hs, e => by
    obtain ⟨v, h1, h2⟩ := ShRs.get (i := i) (d := d) hs (by simpa using e)
    exact ⟨v, by simpa using h1, h2⟩
theorem init_some {n : Nat} {ds : List D} {i : Nat} {d : D} (h : (init n ds)[i]? = some (some d)) : ds[i]? = some d ∧ i < ds.length := by
  unfold init at h
  by_cases hi : i < ds.length
  · rw [List.getElem?_append_left (by simpa using hi), List.getElem?_map] at h
    cases e : ds[i]? with
    | none => rw [e] at h; cases h
    | some a => rw [e] at h; cases h; exact ⟨rfl, hi⟩
  · rw [List.getElem?_append_right (by simpa using hi), List.getElem?_replicate] at h
    split at h <;> cases h
/-- the state at a def's entry -/
theorem SR.entry {K : PySem.W.Frag} {kd : Nat → Bool} {hd : Option Addr} {hc : Addr} {B : Addr → Prop} {H : Hp} {vs : List V} {ds : List D} {N : List Str} (tr : ∀ a, B a → ∃ xs, H a = some (.lst xs)) (hi : HandI hd hc B H) (h : ShRs K hd H B vs ds)
    (hk : ∀ i, i < vs.length → kd i = false) : SR ⟨K, hd, hc, B, kd⟩ (init N.length ds) (L2.start N vs) H (fun _ => False) where
  len := by
    unfold init L2.start
    rw [List.length_append, List.length_append, List.length_map, List.length_map, List.length_replicate, List.length_replicate, h.length]
  val := fun i d e => by
    obtain ⟨e1, e2⟩ := init_some e
    obtain ⟨v, e3, r⟩ := h.get e1
    rw [← h.length] at e2
    refine ⟨v, ?_, ?_⟩
    · unfold L2.start
      rw [List.getElem?_append_left (by simpa using e2), List.getElem?_map, e3]
      rfl
    · show SlotR _ (kd i) _ _ _ _
      rw [hk i e2]
      exact r.mono fun a z => z.elim id False.elim
  ap := fun i j d d' a _ k1 _ e _ _ _ => by
    obtain ⟨_, e2⟩ := init_some e
    rw [← h.length] at e2
    exact Bool.false_ne_true ((hk i e2).symm.trans k1)
  tr := fun a z => z.elim (tr a) False.elim
  bo := fun _ _ z => z
  hn := hi
section
variable {P : Program} {w : World} {K : PySem.W.Frag} {mg : Str → Option Value} {base : Heap}
theorem cal_fn {st : Stmt} {f : Addr} {fd : FuncData} {ps : List Str} {Γ : Gm} {φ : Nat → List D → R D} {κ : Nat → D} {k n : Nat} {ro : Bool} {x : Str} {body : C} (F : L2.Fun K x x st f fd) (b : Binds K fd ps []) (hmx : mg x = some (.ref f)) (S : FnScope Γ.N ps (defScope st)) (hl : ps.length = n)
    (hm : ∀ i, i < n → Γ.kd i = false) (hc : chk Γ body (defScope st) (fun _ => true) (.b ro (defBody st)) = true) (mg0 : ∀ x, bltB x = true → mg x = none)
    (cal : ∀ j x n ro, Γ.funs[j]? = some (x, n, ro) → C8.Cal P w K mg base k x (SpE K n ro (φ j)) []) (con : ∀ j x, Γ.cons[j]? = some x → ∃ u v, mg x = some u ∧ RelV v u ∧ ∀ H F, Sh K H F v (κ j)) :
    C8.Cal P w K mg base (k + 1) x (SpE K n ro (fun ds => ((den φ κ body).M (init Γ.N.length ds)).bind (retOf ro))) [] := by
  refine ⟨f, fd, ps, [], ?_, hmx, F.kp, b, .nil⟩
  refine F.ok S (fun vs H Q E h => h.1.trans hl.symm) fun cdv A outer s H vs Q E hr h => ?_
  obtain ⟨hv, hd, hc', B, ds, tr, hi, sh, q⟩ := h
  have S0 : SR ⟨K, hd, hc', B, Γ.kd⟩ (init Γ.N.length ds) (L2.start Γ.N vs) H (fun _ => False) := SR.entry tr hi sh fun i h => hm i (by rwa [hv] at h)
  refine ⟨TSm ⟨K, hd, hc', B, Γ.kd⟩ ro (den φ κ body).M, ?_, ?_⟩
  · exact chk_ok (κ := κ) (φ := φ) body (lvl := k) (G := ⟨K, hd, hc', B, Γ.kd⟩) (tg := .b ro (defBody st)) hc ⟨rfl, rfl, rfl, rfl, rfl, rfl, S.nd, hr, mg0, cal, con, rfl⟩
  · refine ⟨init Γ.N.length ds, fun _ => False, S0, R.all_mono (fun fl q => ?_) (R.all_bind q)⟩
    cases fl with
    | bk _ => exact q.elim
    | ct _ => exact q.elim
    | nx st' =>
      intro σ' H' O' sp S'
      cases ro with
      | true => exact q.elim
      | false => exact q .non H' (fun a o e n => sp.pr a o e (.inr id) n) S'.hn (.inl .non)
    | rt d =>
      intro v H' O' st' σ' sp S' r
      refine q v H' (fun a o e n => sp.pr a o e (.inr id) n) S'.hn ?_
      cases ro with
      | false => exact ShR.mono (fun a z => .inl z) r
      | true =>
        obtain ⟨a, rfl, ⟨ho, ds', vs', rfl, e2, e3⟩, _⟩ := r
        refine ⟨a, rfl, (sp.nw a ho).resolve_left id, ds', vs', rfl, e2, e3.mono fun b z => z.elim .inl fun e => .inr (e ▸ ho)⟩
end
end EV
/-! the law's own hand -/
namespace EV
open PySem PySem.Spec PyProof.Rows L2 RZ
def topS (i : Nat) : Stmt := PySem.Challenge.pw_tiledwhole_k39_whole_lots_of_hours.main.body.getD i (.Pass ⟨0, 0, 0, 0⟩)
abbrev sHand : Stmt := topS 19
abbrev sDraw : Stmt := topS 20
--MARK
theorem scH : FnScope ["script", "cells", "cell"] ["script"] (defScope sHand) := ⟨rfl, rfl, rfl, by decide +kernel, rfl, by decide +kernel, by decide +kernel⟩
theorem scD : FnScope ["hand", "many", "cell", "digit", "number"] ["hand", "many"] (defScope sDraw) := ⟨rfl, rfl, rfl, by decide +kernel, rfl, by decide +kernel, by decide +kernel⟩
def hnd5 (hc : Addr) (i l m n : Int) : List V := [.ref hc, .int i, .int l, .int m, .int n]
def spHand (K : PySem.W.Frag) : Sp := fun vs H Q _ => ∃ (a : Addr) (ns : List Int), vs = [V.ref a] ∧ SqL K H a (ns.map V.int) ∧ ns.length ≤ 63 ∧ ∀ (H' : Hp) (h hc : Addr) (cs : List Int) (m : Int), (∀ b o, H b = some o → H' b = some o) → H h = none → H hc = none → hc ≠ h → H' hc = some (.lst (cs.map V.int)) → (∀ x ∈ cs, 0 ≤ x) → 0 ≤ m →
  H' h = some (.lst (hnd5 hc 0 0 m 0)) → Q (.ref h) H'
section
variable {P : Program} {w : World} {K : PySem.W.Frag} {mg : Str → Option Value} {base : Heap}
def absI (z : Int) : Int := if z < 0 then -z else z
theorem absI_nn (z : Int) : 0 ≤ absI z := by unfold absI; split <;> omega
theorem cut_map (ns : List Int) (lo hi : Option Int) : ∃ ms : List Int, cutV (ns.map V.int) lo hi = ms.map V.int ∧ ms.length ≤ ns.length := by
  unfold cutV
  exact ⟨_, by rw [← List.map_drop, ← List.map_take], by rw [List.length_take, List.length_drop]; omega⟩
theorem ok_hand {f : Addr} {fd : FuncData} (F : L2.Fun K "_law_hand" "_law_hand" sHand f fd) (mg0 : ∀ x, bltB x = true → mg x = none) : FnOk P w K mg base L2.CX0 1 f fd ["script"] (spHand K) := by
  have m1 := mg0 "abs" (by decide +kernel)
  have m2 := mg0 "int" (by decide +kernel)
  have m3 := mg0 "len" (by decide +kernel)
  refine F.ok scH (fun vs H Q E h => ?_) (fun cdv A outer s H vs Q E hr h => ?_)
  · obtain ⟨a, ns, rfl, _⟩ := h
    rfl
  · obtain ⟨a, ns, rfl, hS, hlen, k⟩ := h
    refine ⟨_, pss_cons (ps_setLc (i := 1) (own := [("cell", 2)]) rfl scH.nd rfl rfl rfl (pi_list (pe_slice sl_list (pv 0) po_none (po_some pe_int))) (blkOk_by (show blkC ["script", "cells", "cell"] (defScope sHand) _ [("cell", 2)] = true by decide +kernel))
        (fun _ _ _ _ _ => pg_name (i := 2) scH.nd rfl (Or.inl rfl)) (fun _ _ _ _ _ => pts_nil) (fun _ _ _ _ _ => pe_callB call_abs (by rfl) m1 rfl (pa_cons (pe_callTy call_int1 (by rfl) m2 rfl (pa_cons (pv 2) pa_nil)) pa_nil)))
      (pss_one (ps_ret (pe_lst (pa_cons (pv 1) (pa_cons pe_int (pa_cons pe_int (pa_cons (pe_op op_add pe_int (pe_op op_mul pe_int (pe_callB call_len_seq (by rfl) m3 rfl (pa_cons (pv 1) pa_nil)))) (pa_cons pe_int pa_nil)))))))), ?_⟩
    obtain ⟨ms, em, lm⟩ := cut_map ns none (some 63)
    refine ⟨.ref a, rfl, 63, rfl, a, _, rfl, hS, fun p hp => ?_⟩
    rw [em]
    refine ⟨p, rfl, ⟨_, .inl (.inl upd_same)⟩, fun D hD => ?_⟩
    have npD : p ≠ D := fun z => by rw [← z, upd_same] at hD; cases hD
    refine lc_list (K := K) (a := p) (xs := ms.map V.int) (fun i H' => (∀ b o, H b = some o → H' b = some o) ∧ H' p = some (.lst (ms.map V.int)) ∧ H' D = some (.lst (((ms.take i).map absI).map V.int))) ?_ (fun i H' _ q => .inl (.inl q.2.1)) ?_ ?_
    · refine ⟨fun b o e => ?_, ?_, upd_same⟩
      · rw [upd_ne (fun z => by rw [z] at e; rw [upd_ne (fun y => npD y.symm), e] at hD; cases hD), upd_ne (ne_of_none e hp)]
        exact e
      · rw [upd_ne npD, upd_same]
    · intro i x H' hi q
      obtain ⟨z, hz, rfl⟩ : ∃ z, ms[i]? = some z ∧ x = V.int z := by
        rw [List.getElem?_map] at hi
        cases e : ms[i]? with
        | none => rw [e] at hi; cases hi
        | some z => rw [e] at hi; exact ⟨z, rfl, (Option.some.inj hi).symm⟩
      refine ⟨rfl, ?_⟩
      unfold tYes
      dsimp only
      rw [if_pos rfl]
      refine ⟨.int z, rfl, .inl ⟨z, rfl, z, rfl, _, q.2.2, ?_, ?_⟩⟩
      · have := (List.getElem?_eq_some_iff.mp hz).1
        rw [List.length_map, List.length_map, List.length_take]
        exact Nat.lt_of_le_of_lt (Nat.le_trans (Nat.min_le_right _ _) lm) (Nat.lt_of_le_of_lt hlen (by decide))
      · refine ⟨fun b o e => ?_, ?_, ?_⟩
        · rw [upd_ne (fun z => by rw [z] at e; rw [upd_ne (fun y => npD y.symm), e] at hD; cases hD)]
          exact q.1 b o e
        · rw [upd_ne npD]
          exact q.2.1
        · rw [upd_same, List.take_add_one, hz, List.map_append, List.map_append]
          rfl
    · intro H' q
      obtain ⟨q1, q2, q3⟩ := q
      rw [List.take_of_length_le (by rw [List.length_map]; exact Nat.le_refl _)] at q3
      have hDn : H D = none := by
        rw [upd_ne (fun y => npD y.symm)] at hD
        exact hD
      refine ⟨.ref D, rfl, .ref D, rfl, D, _, rfl, .inl (.inl (.inl q3)), 5, _, rfl, rfl, .inl ⟨by decide, by decide⟩, 83, _, rfl, rfl, (by show 5 ≤ sizeLine; decide), fun h hh => ?_⟩
      have nDh : D ≠ h := ne_of_none q3 hh
      have hHn : H h = none := by
        cases e : H h with
        | none => rfl
        | some o => rw [q1 h o e] at hh; cases hh
      refine k _ h D (ms.map absI) _ (fun b o e => ?_) hHn hDn nDh (by rw [upd_ne nDh]; exact q3) (fun x hx => ?_) ?_ upd_same
      · rw [upd_ne (fun z => by rw [z, hHn] at e; cases e)]
        exact q1 b o e
      · obtain ⟨y, _, rfl⟩ := List.mem_map.mp hx
        exact absI_nn y
      · omega
/-! a draw -/
def phiDraw : List D → R D
  | [.hnd, .int n] => (match decide (0 < n) && decide (n < 1073741824) with | true => .dr n.toNat (fun d => .ok (.int (d : Nat))) | false => .bad)
  | _ => .bad
theorem rdk {σ : L2.St} {H : Hp} {Q : VK} {a : Addr} {xs : List V} {k : Int} {v : V} (hs : σ[0]? = some (some (.ref a))) (hH : H a = some (.lst xs)) (hx : atI xs k = some v) (q : Q v H) : tOp (rIxL K) (tVar 0) (tC (.int k)) σ H Q := ⟨_, hs, a, xs, k, v, rfl, rfl, .inl (.inl hH), hx, q⟩
theorem wrk {σ : L2.St} {H : Hp} {Q : L2.St → Hp → Prop} {a : Addr} {xs : List V} {k : Int} {j : Nat} {v : V} (hs : σ[0]? = some (some (.ref a))) (hH : H a = some (.lst xs)) (hx : ixN xs.length k = some j) (q : Q σ (upd H a (.lst (xs.set j v)))) : gSub (tVar 0) (tC (.int k)) rSetL v σ H Q := ⟨_, hs, a, xs, k, j, rfl, rfl, hH, hx, q⟩
theorem ok_draw {f : Addr} {fd : FuncData} (F : L2.Fun K "_law_draw" "_law_draw" sDraw f fd) (mg0 : ∀ x, bltB x = true → mg x = none) : FnOk P w K mg base L2.CX0 1 f fd ["hand", "many"] (SpE K 2 false phiDraw) := by
  have m2 := mg0 "int" (by decide +kernel)
  have m3 := mg0 "len" (by decide +kernel)
  refine F.ok scD (fun vs H Q E h => h.1) (fun cdv A outer s H vs Q E hr h => ?_)
  obtain ⟨hl, hd, hc, B, ds, tr, hI, sh, q⟩ := h
  obtain ⟨n, rfl⟩ : ∃ n, ds = [.hnd, .int n] := by
    unfold phiDraw at q
    split at q
    · exact ⟨_, rfl⟩
    · exact q.elim
  obtain ⟨a, rfl, rfl⟩ : ∃ a, vs = [.ref a, .int n] ∧ hd = some a := by
    cases sh with
    | cons h1 h2 =>
      cases h2 with
      | cons h3 h4 =>
        cases h4
        rcases h1 with h1 | ⟨_, a, rfl, ea⟩
        · cases h1
        · rcases h3 with h3 | ⟨h3, _⟩
          · cases h3
            exact ⟨a, rfl, ea⟩
          · cases h3
  have q' : (0 < n ∧ n < 1073741824) ∧ ∀ d, d < n.toNat → ∀ v H', (∀ b o, H b = some o → some a ≠ some b → H' b = some o) → HandI (some a) hc B H' → RetR K (some a) B H H' false v (.int (d : Nat)) → Q v H' := by
    unfold phiDraw at q
    dsimp only at q
    cases e : (decide (0 < n) && decide (n < 1073741824)) with
    | false => rw [e] at q; exact q.elim
    | true =>
      rw [e] at q
      rw [Bool.and_eq_true, decide_eq_true_eq, decide_eq_true_eq] at e
      exact ⟨e, q⟩
  obtain ⟨⟨n0, n1⟩, k⟩ := q'
  obtain ⟨⟨hBa, hBc, hca⟩, i0, l0, m0, c0, cs, hHa, hHc, hi0, hl0, hm0, hc0, hcs⟩ := hI a rfl
  have fin : ∀ (d i l m c : Int) (H' : Hp), 0 ≤ d → d < n → 0 ≤ i → 0 ≤ l → 0 ≤ m → 0 ≤ c → H' a = some (.lst (hnd5 hc i l m c)) → (∀ b, b ≠ a → H' b = H b) → Q (.int d) H' := by
    intro d i l m c H' d0 d1 hi hl hm hcc e1 e2
    have := k d.toNat (by omega) (.int d) H' (fun b o e ne => by rw [e2 b (fun z => ne (by rw [z]))]; exact e) (fun b eb => by
      cases eb
      exact ⟨⟨hBa, hBc, hca⟩, i, l, m, c, cs, e1, by rw [e2 hc hca]; exact hHc, hi, hl, hm, hcc, hcs⟩) (.inl (by rw [Int.toNat_of_nonneg d0]; exact .int d))
    exact this
  have fm : ∀ x y : Int, 0 < y → 0 ≤ x.fmod y ∧ x.fmod y < y := fun x y h => ⟨Int.fmod_nonneg_of_pos x h, Int.fmod_lt_of_pos x h⟩
  have hT : PSs (cxOf CX0 P w K mg base ["hand", "many", "cell", "digit", "number"] "_law_draw" (defScope sDraw) f cdv A outer s H E).nox (defBody sDraw).tail (fun Dn σ H1 => ∃ x2 i l m c, σ = [some (.ref a), some (.int n), x2, none, none] ∧ 0 ≤ i ∧ 0 ≤ l ∧ 0 ≤ m ∧ 0 ≤ c ∧ H1 a = some (.lst (hnd5 hc i l m c)) ∧
      ∀ (d i l m c : Int) (H' : Hp), 0 ≤ d → d < n → 0 ≤ i → 0 ≤ l → 0 ≤ m → 0 ≤ c → H' a = some (.lst (hnd5 hc i l m c)) → (∀ b, b ≠ a → H' b = H1 b) → Dn.rt (.int d) H') := by
    refine PSs.weak (pss_cons (ps_if (pt_cmpR op_gt (pe_ix ix_list (pv 0) pe_int (fun _ _ => rfl)) pe_int (nomark _))
        (pss_cons (ps_set (i := 3) scD.nd rfl (.inl rfl) (pe_op op_modN (pe_callTy call_int1 (by rfl) m2 rfl (pa_cons (pe_ix ix_list (pv 0) pe_int (fun _ _ => rfl)) pa_nil)) (pv 1)))
        (pss_cons (ps_asg (pe_op op_fdivN (pe_ix ix_list (pv 0) pe_int (fun _ _ => rfl)) (pv 1)) (pg_sub (pv 0) pe_int set_list))
        (pss_one (ps_ret (pv 3))))) pss_nil)
      (pss_cons (ps_asg (pe_op op_add (pe_ix ix_list (pv 0) pe_int (fun _ _ => rfl)) pe_int) (pg_sub (pv 0) pe_int set_list))
      (pss_cons (ps_set (i := 4) scD.nd rfl (.inl rfl) (pe_op op_modN (pe_callTy call_int1 (by rfl) m2 rfl (pa_cons (pe_op op_mul (pe_callTy call_int1 (by rfl) m2 rfl (pa_cons (pe_op op_add (pe_ix ix_list (pv 0) pe_int (fun _ _ => rfl)) (pe_op op_mul pe_int (pe_ix ix_list (pv 0) pe_int (fun _ _ => rfl)))) pa_nil)) pe_int) pa_nil)) pe_int))
      (pss_cons (ps_set (i := 4) scD.nd rfl (.inl rfl) (pe_op op_modN (pe_callTy call_int1 (by rfl) m2 rfl (pa_cons (pe_op op_mul (pv 4) (pe_op op_add (pe_op op_fdivN (pv 4) pe_int) pe_int)) pa_nil)) pe_int))
      (pss_cons (ps_set (i := 4) scD.nd rfl (.inl rfl) (pe_op op_modN (pe_callTy call_int1 (by rfl) m2 rfl (pa_cons (pe_op op_mul (pv 4) (pe_op op_add (pe_op op_fdivN (pv 4) pe_int) pe_int)) pa_nil)) pe_int))
      (pss_one (ps_ret (pe_op op_modN (pe_callTy call_int1 (by rfl) m2 rfl (pa_cons (pe_op op_fdivN (pv 4) pe_int) pa_nil)) (pv 1))))))))) ?_
    rintro Dn σ H1 ⟨x2, i, l, m, c, rfl, hi, hl, hm, hcc, e1, fin⟩
    refine rdk rfl e1 (v := .int l) rfl ⟨l, 0, rfl, rfl, _, rfl, ite2 (fun hg => ?_) (fun hg => ?_)⟩
    · refine rdk rfl e1 (v := .int l) rfl (.inl ⟨l, rfl, .int n, rfl, l, n, rfl, rfl, (by omega : n ≠ 0), ?_⟩)
      refine rdk rfl e1 (v := .int l) rfl ⟨.int n, rfl, l, n, rfl, rfl, ⟨by omega, by omega⟩, ?_⟩
      refine wrk rfl e1 (j := 2) rfl ⟨_, rfl, ?_⟩
      exact fin _ i _ m c _ (fm l n n0).1 (fm l n n0).2 hi (Int.fdiv_nonneg hl (by omega)) hm hcc upd_same fun b hb => upd_ne hb
    · refine rdk rfl e1 (v := .int c) rfl ⟨c, 1, rfl, rfl, ?_⟩
      refine wrk rfl e1 (j := 4) rfl ?_
      refine rdk rfl upd_same (v := .int m) rfl ?_
      refine rdk rfl upd_same (v := .int (c + 1)) rfl ?_
      refine ⟨7877, c + 1, rfl, rfl, .inl ⟨by decide, by decide⟩, m, _, rfl, rfl, .inl ⟨_, rfl, _, 69621, rfl, rfl, .inr ⟨by decide, by decide⟩, .inl ⟨_, rfl, _, 2147483647, rfl, rfl, (by decide : (2147483647 : Int) ≠ 0), ?_⟩⟩⟩
      refine ⟨_, rfl, _, rfl, _, 1103, rfl, rfl, ⟨by decide, by decide⟩, _, 40692, rfl, rfl, _, _, rfl, rfl, .inl ⟨Int.lt_of_lt_of_le (by decide) (fm _ 2147483647 (by decide)).1, Int.lt_trans (fm _ 2147483647 (by decide)).2 (by decide)⟩, .inl ⟨_, rfl, _, 2147483399, rfl, rfl, (by decide : (2147483399 : Int) ≠ 0), ?_⟩⟩
      refine ⟨_, rfl, _, rfl, _, 2311, rfl, rfl, ⟨by decide, by decide⟩, _, 48271, rfl, rfl, _, _, rfl, rfl, .inl ⟨Int.lt_of_lt_of_le (by decide) (fm _ 2147483399 (by decide)).1, Int.lt_trans (fm _ 2147483399 (by decide)).2 (by decide)⟩, .inl ⟨_, rfl, _, 2147483629, rfl, rfl, (by decide : (2147483629 : Int) ≠ 0), ?_⟩⟩
      refine ⟨_, rfl, _, 16, rfl, rfl, ⟨by decide, by decide⟩, .inl ⟨_, rfl, _, rfl, _, n, rfl, rfl, (by omega : n ≠ 0), ?_⟩⟩
      exact fin _ i l m (c + 1) _ (fm _ n n0).1 (fm _ n n0).2 hi hl hm (by omega) upd_same fun b hb => upd_ne hb
  refine ⟨_, pss_cons (ps_if ((pw_and (pt_cmpR op_eq (pe_ix ix_list (pv 0) pe_int (fun _ _ => rfl)) pe_int (nomark _)) (pw_and1 (pt_cmpR op_lt (pe_ix ix_list (pv 0) pe_int (fun _ _ => rfl)) (pe_callB call_len_seq (by rfl) m3 rfl (pa_cons (pe_ix ix_list (pv 0) pe_int (fun _ _ => rfl)) pa_nil)) (nomark _)))).pt)
      (pss_cons (ps_set (i := 2) scD.nd rfl (.inl rfl) (pe_ix ix_list (pe_ix ix_list (pv 0) pe_int (fun _ _ => rfl)) (pe_ix ix_list (pv 0) pe_int (fun _ _ => rfl)) (fun _ _ => rfl)))
      (pss_cons (ps_asg (pe_op op_add (pe_ix ix_list (pv 0) pe_int (fun _ _ => rfl)) pe_int) (pg_sub (pv 0) pe_int set_list))
      (pss_cons (ps_asg (pe_op op_modN (pe_callTy call_int1 (by rfl) m2 rfl (pa_cons (pe_op op_add (pe_op op_add (pe_op op_mul (pe_ix ix_list (pv 0) pe_int (fun _ _ => rfl)) pe_int) (pe_op op_mul (pv 2) pe_int)) pe_int) pa_nil)) pe_int) (pg_sub (pv 0) pe_int set_list))
      (pss_one (ps_asg (pe_ifExp (pt_cmpR op_ge (pv 2) (pe_op op_pow pe_int pe_int) (nomark _)) (pv 2) pe_int) (pg_sub (pv 0) pe_int set_list))))))
      pss_nil) hT, ?_⟩
  refine rdk rfl hHa (v := .int l0) rfl ⟨rfl, _, rfl, ite2 (fun g1 => ?_) (fun g1 => ?_)⟩
  · refine rdk rfl hHa (v := .int i0) rfl (rdk rfl hHa (v := .ref hc) rfl ⟨hc, _, rfl, .inl (.inl (.inl hHc)), i0, _, rfl, rfl, _, rfl, ite2 (fun g2 => ?_) (fun g2 => ?_)⟩)
    · have g2' : i0 < (cs.length : Int) := by
        have := of_decide_eq_true g2
        rwa [List.length_map] at this
      obtain ⟨j, rfl⟩ : ∃ j : Nat, i0 = (j : Int) := ⟨i0.toNat, (Int.toNat_of_nonneg hi0).symm⟩
      have hj : j < cs.length := by omega
      have g3 : (cs.map V.int)[j]? = some (.int cs[j]) := by
        rw [List.getElem?_map, List.getElem?_eq_getElem hj]
        rfl
      have hnn := hcs cs[j] (List.getElem_mem hj)
      refine rdk rfl hHa (v := .ref hc) rfl (rdk rfl hHa (v := .int (j : Int)) rfl ⟨hc, _, (j : Int), _, rfl, rfl, .inl (.inl hHc), atI_nat g3, ?_⟩)
      refine rdk rfl hHa (v := .int (j : Int)) rfl ⟨_, 1, rfl, rfl, wrk rfl hHa (j := 1) rfl ?_⟩
      refine rdk rfl upd_same (v := .int m0) rfl ⟨m0, 48271, rfl, rfl, .inr ⟨by decide, by decide⟩, .int cs[j], rfl, _, 5, rfl, rfl, .inr ⟨by decide, by decide⟩, _, _, rfl, rfl, _, 29, rfl, rfl, .inl ⟨_, rfl, _, 2147483587, rfl, rfl, (by decide : (2147483587 : Int) ≠ 0), wrk rfl upd_same (j := 3) rfl ?_⟩⟩
      refine ⟨.int cs[j], rfl, 10, 18, rfl, rfl, ⟨by decide, by decide, by decide⟩, _, _, rfl, rfl, _, rfl, ite2 (fun g4 => ?_) (fun g4 => ?_)⟩
      · refine ⟨.int cs[j], rfl, wrk rfl upd_same (j := 2) rfl ?_⟩
        exact ⟨_, _, _, _, _, rfl, by omega, hnn, (fm _ 2147483587 (by decide)).1, hc0, upd_same, fun d i l m c H' h1 h2 h3 h4 h5 h6 h7 h8 => fin d i l m c H' h1 h2 h3 h4 h5 h6 h7 fun b hb => by rw [h8 b hb, upd_ne hb, upd_ne hb, upd_ne hb]⟩
      · refine wrk rfl upd_same (j := 2) rfl ?_
        exact ⟨_, _, _, _, _, rfl, by omega, Int.le_refl 0, (fm _ 2147483587 (by decide)).1, hc0, upd_same, fun d i l m c H' h1 h2 h3 h4 h5 h6 h7 h8 => fin d i l m c H' h1 h2 h3 h4 h5 h6 h7 fun b hb => by rw [h8 b hb, upd_ne hb, upd_ne hb, upd_ne hb]⟩
    · exact ⟨none, i0, l0, m0, c0, rfl, hi0, hl0, hm0, hc0, hHa, fin⟩
  · refine iteF ?_
    exact ⟨none, i0, l0, m0, c0, rfl, hi0, hl0, hm0, hc0, hHa, fin⟩
end
end EV
/-! the defs by depth; the law -/
namespace EV
open PySem PySem.Spec PyProof.Rows L2 RZ
def callF (F : List Fd) (κ : Nat → D) (prim : Nat → Option (List D → R D)) : Nat → Nat → List D → R D
  | 0, _, _ => .bad
  | n + 1, j, ds => match prim j with
    | some φ => φ ds
    | none => match F[j]? with
      | some fd => runB (callF F κ prim n) κ fd ds
      | none => .bad
section
variable {P : Program} {w : World} {K : PySem.W.Frag} {mg : Str → Option Value} {base : Heap}
/-- what is known of a def of the table -/
structure FnF (P : Program) (w : World) (K : PySem.W.Frag) (mg : Str → Option Value) (base : Heap) (F : List Fd) (cons : List Str) (pr : Option (List D → R D)) (fd : Fd) : Prop where
  ex : ∃ (st : Stmt) (f : Addr) (fdd : FuncData) (ps : List Str), L2.Fun K fd.nm fd.nm st f fdd ∧ Binds K fdd ps [] ∧ mg fd.nm = some (.ref f) ∧ ps.length = fd.ar ∧
    (match pr with
      | some φ => FnOk P w K mg base L2.CX0 1 f fdd ps (SpE K fd.ar fd.ro φ)
      | none => FnScope fd.N ps (defScope st) ∧ (∀ i, i < fd.ar → fd.kd i = false) ∧ chk (gmOf F cons fd) fd.body (defScope st) (fun _ => true) (.b fd.ro (defBody st)) = true)
theorem cals {F : List Fd} {cons : List Str} {κ : Nat → D} {prim : Nat → Option (List D → R D)} (mg0 : ∀ x, bltB x = true → mg x = none) (con : ∀ j x, cons[j]? = some x → ∃ u v, mg x = some u ∧ RelV v u ∧ ∀ H F, Sh K H F v (κ j))
    (hF : ∀ j fd, F[j]? = some fd → FnF P w K mg base F cons (prim j) fd) : ∀ n j x ar ro, (F.map fun g => (g.nm, g.ar, g.ro))[j]? = some (x, ar, ro) → C8.Cal P w K mg base n x (SpE K ar ro (callF F κ prim n j)) [] := by
  intro n
  induction n with
  | zero =>
    intro j x ar ro e
    rw [List.getElem?_map] at e
    cases ej : F[j]? with
    | none => rw [ej] at e; cases e
    | some fd =>
      rw [ej] at e
      cases e
      obtain ⟨st, f, fdd, ps, Fu, b, hm, hl, _⟩ := (hF j fd ej).ex
      refine ⟨f, fdd, ps, [], ⟨fun vs H Q E h => h.1.trans hl.symm, fun A outer s H args us vs Q E _ _ _ _ h => ?_⟩, hm, Fu.kp, b, .nil⟩
      obtain ⟨_, _, _, _, _, _, _, _, q⟩ := h
      exact q.elim
  | succ n ih =>
    intro j x ar ro e
    rw [List.getElem?_map] at e
    cases ej : F[j]? with
    | none => rw [ej] at e; cases e
    | some fd =>
      rw [ej] at e
      cases e
      obtain ⟨st, f, fdd, ps, Fu, b, hm, hl, z⟩ := (hF j fd ej).ex
      cases ep : prim j with
      | some φ =>
        rw [ep] at z
        have ec : callF F κ prim (n + 1) j = φ := by funext ds; show (match prim j with | some φ => φ ds | none => _) = _; rw [ep]
        rw [ec]
        exact ⟨f, fdd, ps, [], FnOk.mono z (Nat.le_add_left 1 n), hm, Fu.kp, b, .nil⟩
      | none =>
        rw [ep] at z
        obtain ⟨S, hk, hc⟩ := z
        have ec : callF F κ prim (n + 1) j = fun ds => ((den (callF F κ prim n) κ fd.body).M (init fd.N.length ds)).bind (retOf fd.ro) := by
          funext ds
          show (match prim j with | some φ => φ ds | none => (match F[j]? with | some fd => runB (callF F κ prim n) κ fd ds | none => .bad)) = _
          rw [ep, ej]
          rfl
        rw [ec]
        exact cal_fn (Γ := gmOf F cons fd) Fu b hm S hl hk hc mg0 ih con
def spLaw (K : PySem.W.Frag) : Sp := fun vs H Q _ => ∃ (a : Addr) (ns : List Int), vs = [.ref a] ∧ SqL K H a (ns.map V.int) ∧ ns.length ≤ 63 ∧ ∀ H', Q (.bl true) H'
theorem ex_pss {X : Cx} {e : List Stmt} {α : Type} {t : α → L2.TS} (h : ∀ a, PSs X e (t a)) : PSs X e (fun Dn σ H => ∃ a, t a Dn σ H) := ⟨fun pins s σ H D I q => q.elim fun a q => (h a).run pins s σ H D I q⟩
def st1 (n : Nat) : AS := (List.replicate n none).set 1 (some .hnd)
theorem st1_some {n i : Nat} {d : D} (h : (st1 n)[i]? = some (some d)) : i = 1 ∧ d = .hnd ∧ 1 < n := by
  unfold st1 at h
  rcases set_some h with ⟨e1, e2, e3⟩ | ⟨_, e⟩
  · cases e2
    rw [List.length_replicate] at e3
    exact ⟨e1.symm, rfl, e3⟩
  · rw [List.getElem?_replicate] at e
    split at e <;> cases e
/-- True comes out, whatever is drawn -/
structure Gives (x : R Fl) : Prop where
  run : x.all fun fl => fl = .rt (.bl true)
theorem law_ok {st : Stmt} {f fH : Addr} {fd fdH : FuncData} {Γ : Gm} {φ : Nat → List D → R D} {κ : Nat → D} {n : Nat} {rest : List Stmt} {c : C} {p1 p2 p3 p4 p5 : Pos} (F : L2.Fun K "law" "law" st f fd) (S : FnScope Γ.N ["script"] (defScope st))
    (hb : defBody st = .Assign [.Name "hand" p1] (.Call (.Name "_law_hand" p2) [.Name "script" p3] [] p4) p5 :: rest) (h0 : Γ.N[0]? = some ("script" : Str)) (h1 : Γ.N[1]? = some ("hand" : Str)) (hv : visB (defScope st) "script" = true) (hl : locB (defScope st) (fun _ => true) "hand" = true) (hg : glB (defScope st) "_law_hand" = true) (hk1 : Γ.kd 1 = false)
    (GH : FnOk P w K mg base L2.CX0 1 fH fdH ["script"] (spHand K)) (bH : Binds K fdH ["script"] []) (kH : PySem.W.keepIn K (.ref fH) = true) (mH : mg "_law_hand" = some (.ref fH))
    (hc : chk Γ c (defScope st) (fun _ => true) (.b false rest) = true) (mg0 : ∀ x, bltB x = true → mg x = none)
    (cal : ∀ j x k ro, Γ.funs[j]? = some (x, k, ro) → C8.Cal P w K mg base (n + 1) x (SpE K k ro (φ j)) []) (con : ∀ j x, Γ.cons[j]? = some x → ∃ u v, mg x = some u ∧ RelV v u ∧ ∀ H F, Sh K H F v (κ j))
    (sem : Gives ((den φ κ c).M (st1 Γ.N.length))) : FnOk P w K mg base L2.CX0 (n + 2) f fd ["script"] (spLaw K) := by
  refine F.ok S (fun vs H Q E h => ?_) (fun cdv A outer s H vs Q E hr h => ?_)
  · obtain ⟨a, ns, rfl, _⟩ := h
    rfl
  · obtain ⟨a, ns, rfl, hS, hlen, k⟩ := h
    have X0 : ∀ B hd hc', XO Γ κ φ (n + 1) ⟨K, hd, hc', B, Γ.kd⟩ (defScope st) (fun _ => true) (cxOf CX0 P w K mg base Γ.N "law" (defScope st) f cdv A outer s H E).nox := fun B hd hc' => ⟨rfl, rfl, rfl, rfl, rfl, rfl, S.nd, hr, mg0, cal, con, rfl⟩
    have X1 := X0 (fun _ => False) none 0
    obtain ⟨v1, v2, v3⟩ := X1.vis hv
    rw [hb]
    refine ⟨_, pss_cons (ps_set (i := 1) S.nd h1 (X1.loc hl).1 (pe_call GH (hr.mono (Nat.le_add_left 1 n)) (X1.gl hg).1 mH kH bH .nil pass0 (pa_cons (pe_var (i := 0) h0 v1 v2 v3) pa_nil)) rfl (X1.loc hl).2)
      (ex_pss fun (z : Option Addr × Addr × (Addr → Prop)) => chk_ok (κ := κ) (φ := φ) c (tg := .b false rest) hc (X0 z.2.2 z.1 z.2.1)), ?_⟩
    have hN : 1 < Γ.N.length := by
      have := (List.getElem?_eq_some_iff.mp h1).1
      exact this
    refine ⟨.ref a, ?_, a, ns, rfl, hS, hlen, fun H' h hc' cs m kp hn hcn ne e1 e2 e3 e4 => ?_⟩
    · unfold L2.start
      rfl
    · refine ⟨(some h, hc', fun b => b = h ∨ b = hc'), st1 Γ.N.length, fun _ => False, ⟨?_, fun i d e => ?_, fun i j d d' a ne k1 k2 e e' _ _ => ?_, fun b z => ?_, fun _ _ z => z, fun b eb => ?_⟩, R.all_mono (fun fl e => ?_) sem.run⟩
      · unfold st1 L2.start
        rw [List.length_set, List.length_replicate, List.length_set, List.length_append, List.length_map, List.length_replicate]
        show Γ.N.length = 1 + (Γ.N.length - 1)
        omega
      · obtain ⟨rfl, rfl, _⟩ := st1_some e
        refine ⟨.ref h, ?_, ?_⟩
        · rw [List.getElem?_set_self]
          unfold L2.start
          rw [List.length_append, List.length_map, List.length_replicate]
          show 1 < 1 + (Γ.N.length - 1)
          omega
        · show SlotR _ (Γ.kd 1) _ _ _ _
          rw [hk1]
          exact .inr ⟨rfl, h, rfl, rfl⟩
      · obtain ⟨rfl, _, _⟩ := st1_some e
        exact Bool.false_ne_true (hk1.symm.trans k1)
      · rcases z with (z | z) | z
        · exact ⟨_, by rw [z]; exact e4⟩
        · exact ⟨_, by rw [z]; exact e1⟩
        · exact z.elim
      · cases eb
        exact ⟨⟨.inl rfl, .inr rfl, ne⟩, 0, 0, m, 0, cs, e4, e1, Int.le_refl _, Int.le_refl _, e3, Int.le_refl _, e2⟩
      · subst e
        intro v H2 O2 st2 σ2 _ _ r
        rw [bl_sh (st := st2) (σ := σ2) (O := O2) r]
        exact k H2
end
end EV
/-! a law of turns that keep nothing but the hand -/
namespace EV
open PySem PySem.Spec PyProof.Rows L2 RZ
theorem mask_out {st : AS} : ∀ {i : Nat}, 2 ≤ i → maskA [1] i st = List.replicate st.length none := by
  induction st with
  | nil => exact fun _ => rfl
  | cons x st ih =>
    intro i h
    show (match [1].contains i with | true => x | false => none) :: maskA [1] (i + 1) st = none :: List.replicate st.length none
    rw [ih (by omega)]
    have : [1].contains i = false := by
      simp
      omega
    rw [this]
def okSt (n : Nat) (st : AS) : Bool := Nat.beq st.length n && match st with | _ :: some .hnd :: _ => true | _ => false
theorem okSt_mask {n : Nat} {st : AS} (h : okSt n st = true) : maskA [1] 0 st = st1 n := by
  unfold okSt at h
  rw [Bool.and_eq_true] at h
  have hn := Nat.eq_of_beq_eq_true h.1
  have h2 := h.2
  split at h2
  · rename_i x st
    show none :: some D.hnd :: maskA [1] 2 st = _
    rw [mask_out (Nat.le_refl 2), ← hn]
    rfl
  · cases h2
def okFl (n : Nat) : Fl → Bool
  | .nx st => okSt n st
  | .ct st => okSt n st
  | _ => false
theorem mask_set {i : Nat} {x : Option D} (hi : i ≠ 1) : ∀ {st : AS} {j : Nat}, maskA [1] j (st.set (i - j) x) = maskA [1] j st ∨ i < j := by
  intro st
  induction st with
  | nil => exact fun {j} => .inl (by simp [maskA])
  | cons y st ih =>
    intro j
    by_cases h : i < j
    · exact .inr h
    · left
      by_cases e : i = j
      · subst e
        rw [Nat.sub_self]
        show (match [1].contains i with | true => x | false => none) :: _ = (match [1].contains i with | true => y | false => none) :: _
        have : [1].contains i = false := by simp; exact fun z => hi z
        rw [this]
      · have e2 : i - j = (i - (j + 1)) + 1 := by omega
        rw [e2]
        show _ :: maskA [1] (j + 1) (st.set (i - (j + 1)) x) = _ :: maskA [1] (j + 1) st
        rcases ih (j := j + 1) with q | q
        · rw [q]
        · omega
theorem turns_all {n i : Nat} {m : MS} (hi : i ≠ 1) (h : (m (st1 n)).allb (okFl n) = true) : ∀ (ds : List D) (st : AS), maskA [1] 0 st = st1 n → (forL (.nm i) (sFgt [1] m) ds st).all fun fl => ∃ st', fl = .nx st' ∧ maskA [1] 0 st' = st1 n
  | [], st, e => ⟨st, rfl, e⟩
  | d :: ds, st, e => by
    have e1 : maskA [1] 0 (st.set i (some d)) = st1 n := by
      rcases mask_set (x := some d) hi (st := st) (j := 0) with q | q
      · rw [Nat.sub_zero] at q
        rw [q, e]
      · omega
    show R.all (R.bind (m (maskA [1] 0 (st.set i (some d)))) _) _
    rw [e1]
    refine R.bind_all (R.all_mono (fun fl q => ?_) (R.all_of (fun _ z => z) h))
    cases fl with
    | nx st2 => exact turns_all hi h ds st2 (okSt_mask q)
    | ct st2 => exact turns_all hi h ds st2 (okSt_mask q)
    | bk _ => cases q
    | rt _ => cases q
def okRt : Fl → Bool
  | .rt (.bl true) => true
  | _ => false
theorem okRt_eq {fl : Fl} (h : okRt fl = true) : fl = .rt (.bl true) := by
  unfold okRt at h
  split at h
  · rfl
  · cases h
theorem law_turns {φ : Nat → List D → R D} {κ : Nat → D} {n i : Nat} {k : Int} {t e : C} (hi : i ≠ 1) (hn : 2 ≤ n) (hk : fits62 k = true) (h : ((den φ κ t).M (st1 n)).allb (okFl n) = true) (h2 : ((den φ κ e).M (st1 n)).allb okRt = true) :
    Gives ((den φ κ (.sq (.for_ (.r1 (.k (.int k))) (.nm i) (.fgt [1] t)) (.fgt [1] e))).M (st1 n)) := by
  constructor
  show R.all (R.bind (R.bind (match fits62 k with | true => R.ok (rng 0 k.toNat, st1 n) | false => .bad) (fun x => forL (.nm i) (sFgt [1] (den φ κ t).M) x.1 x.2)) _) _
  rw [hk]
  have e0 : maskA [1] 0 (st1 n) = st1 n := by
    refine okSt_mask ?_
    unfold okSt st1
    rw [Bool.and_eq_true, List.length_set, List.length_replicate]
    refine ⟨Nat.beq_refl n, ?_⟩
    match n, hn with
    | n + 2, _ => rfl
  refine R.bind_all (R.all_mono (fun fl q => ?_) (turns_all hi h _ _ e0))
  obtain ⟨st', rfl, e'⟩ := q
  show R.all ((den φ κ e).M (maskA [1] 0 st')) _
  rw [e']
  exact R.all_of (fun _ z => okRt_eq z) h2
end EV
/-! a def as the top has made it -/
namespace EV
open PySem PySem.Spec PyProof.Rows L2 RZ
structure DF (K : PySem.W.Frag) (mg : Str → Option Value) (x : Str) (st : Stmt) (ps : List Str) : Prop where
  ex : ∃ (f : Addr) (fd : FuncData), L2.Fun K x x st f fd ∧ Binds K fd ps [] ∧ mg x = some (.ref f) ∧ ∀ (s : Shared) (us : List Value), us.length = ps.length → BindsTo s fd ⟨us, []⟩ (ps.zip us)
theorem df_mk {K : PySem.W.Frag} {mg : Str → Option Value} {h : Heap} (X : K.In h) (G : h.Ns mainGlobals mg) {x : Str} {st : Stmt} {ps : List Str} {f : Addr} {oc : Value} {od an : Option Addr} {osl : Array (Option Value)} {kV doc pm cdv ct : Value}
    (hb : ∀ (kV doc pm : Value) (an : Option Addr) (cdv ct : Value) (us : List Value), us.length = ps.length → bindArgs (PySem.W.fnOf x x (defArgs st) (defBody st) (defScope st) .none kV doc pm an cdv ct) ⟨us, []⟩ = pure (ps.zip us))
    (a : PySem.W.nsIn K mainGlobals x = some (some (.ref f))) (l : K.lookup f = some ⟨oc, od, .func (PySem.W.fnOf x x (defArgs st) (defBody st) (defScope st) .none kV doc pm an cdv ct), osl⟩) (c : PySem.W.codeIn K cdv x = true) (k : PySem.W.keepIn K (.ref f) = true) : DF K mg x st ps := by
  have F := L2.fun_mk (st := st) l c k
  exact ⟨f, _, F, F.binds hb, PySem.W.mg_of X G a, fun s us hl => .of_eq (hb kV doc pm an cdv ct us hl)⟩
theorem con_mk {K : PySem.W.Frag} {mg : Str → Option Value} {h : Heap} (X : K.In h) (G : h.Ns mainGlobals mg) {x : Str} {i : Int} {q : Option (Option Value)} (e : PySem.W.nsIn K mainGlobals x = q) (hq : ∃ t, q = some (some (.int i t))) : ∃ t, mg x = some (.int i t) := by
  obtain ⟨t, rfl⟩ := hq
  exact ⟨t, PySem.W.mg_of X G e⟩
def blts : List Str := ["len", "sum", "all", "any", "tuple", "int", "abs", "list", "sorted", "isinstance", "bool", "str", "dict", "range", "zip", "min", "max", "enumerate", "set"]
theorem blt_mem {x : Str} (h : bltB x = true) : x ∈ blts := by
  unfold bltB at h
  simp only [Bool.or_eq_true, beq_iff_eq] at h
  unfold blts
  rcases h with (((((((((((((((((h | h) | h) | h) | h) | h) | h) | h) | h) | h) | h) | h) | h) | h) | h) | h) | h) | h) | h <;> subst h <;> simp
theorem fnf_mk {P : Program} {w : World} {K : PySem.W.Frag} {mg : Str → Option Value} {base : Heap} {F : List Fd} {cons : List Str} {fd : Fd} {st : Stmt} {ps : List Str} (d : DF K mg fd.nm st ps) (hl : ps.length = fd.ar) (S : FnScope fd.N ps (defScope st)) (hk : ∀ i, i < fd.ar → fd.kd i = false)
    (hc : chk (gmOf F cons fd) fd.body (defScope st) (fun _ => true) (.b fd.ro (defBody st)) = true) : FnF P w K mg base F cons none fd := by
  obtain ⟨f, fdd, Fu, b, hm, _⟩ := d.ex
  exact ⟨st, f, fdd, ps, Fu, b, hm, hl, S, hk, hc⟩
theorem sc_by {N P : List Str} {sc : Scope} (h : C8.scC N P sc = true) : FnScope N P sc := C8.fnScope_by h
def muOk (fd : Fd) : Bool := fd.mu.all fun i => Nat.ble fd.ar i
theorem mu_ok {fd : Fd} (h : muOk fd = true) : ∀ i, i < fd.ar → fd.kd i = false := by
  intro i hi
  unfold Fd.kd
  cases e : fd.mu.contains i with
  | false => rfl
  | true =>
    have := Nat.le_of_ble_eq_true (List.all_eq_true.mp h i (by simpa using e))
    omega
/-- the law, from its parts -/
theorem law_all {l : PySem.W.OpenLaw} {w : World} {K : PySem.W.Frag} {mg : Str → Option Value} {fa : Addr} {F : List Fd} {Γ : Gm} {κ : Nat → D} {prim : Nat → Option (List D → R D)} {n : Nat} {st : Stmt} {rest : List Stmt} {c : C} {p1 p2 p3 p4 p5 : Pos} (hfa : mg "law" = some (.ref fa))
    (hf : Γ.funs = F.map fun g => (g.nm, g.ar, g.ro)) (mg0 : ∀ x ∈ blts, mg x = none) (con : ∀ j x, Γ.cons[j]? = some x → ∃ u v, mg x = some u ∧ RelV v u ∧ ∀ H F, Sh K H F v (κ j)) (DL : DF K mg "law" st ["script"]) (DH : DF K mg "_law_hand" sHand ["script"])
    (hF : ∀ base : Heap, ∀ j fd, F[j]? = some fd → FnF l.prog w K mg base F Γ.cons (prim j) fd) (S : FnScope Γ.N ["script"] (defScope st))
    (hb : defBody st = .Assign [.Name "hand" p1] (.Call (.Name "_law_hand" p2) [.Name "script" p3] [] p4) p5 :: rest) (h0 : Γ.N[0]? = some ("script" : Str)) (h1 : Γ.N[1]? = some ("hand" : Str)) (hv : visB (defScope st) "script" = true) (hl : locB (defScope st) (fun _ => true) "hand" = true) (hg : glB (defScope st) "_law_hand" = true) (hk1 : Γ.kd 1 = false)
    (hc : chk Γ c (defScope st) (fun _ => true) (.b false rest) = true) (sem : Gives ((den (callF F κ prim (n + 1)) κ c).M (st1 Γ.N.length))) :
    ∃ fd : FuncData, (∀ (s : Shared) (v : Value), BindsTo s fd ⟨[v], []⟩ [("script", v)]) ∧ ∀ base : Heap, K.In base → base.Ns mainGlobals mg → FnOk l.prog w K mg base L2.CX0 (n + 2) fa fd ["script"] (spLaw K) := by
  have mg0' : ∀ x, bltB x = true → mg x = none := fun x h => mg0 x (blt_mem h)
  obtain ⟨f, fd, Fu, b, hm, bt⟩ := DL.ex
  cases hfa.symm.trans hm
  obtain ⟨fH, fdH, FuH, bH, hmH, _⟩ := DH.ex
  refine ⟨fd, fun s v => bt s [v] rfl, fun base _ _ => ?_⟩
  exact law_ok Fu S hb h0 h1 hv hl hg hk1 (ok_hand FuH mg0') bH FuH.kp hmH hc mg0' (fun j x k ro e => cals mg0' con (hF base) (n + 1) j x k ro (by rw [← hf]; exact e)) con sem
end EV
/-! calls whose arguments and answers are written out first (so that the kernel meets a call again that it has met) -/
namespace EV
open PySem PySem.Spec PyProof.Rows L2
def run0 (N : Nat) (m : MS) (ds : List D) : R D := (m (init N ds)).bind (retOf false)
def run1 (N : Nat) (m : MS) (ds : List D) : R D := (m (init N ds)).bind (retOf true)
section
variable {α : Type}
def fcN (n : Nat) (k : Nat → α) : α := match n with | 0 => k 0 | m + 1 => k (m + 1)
def fcI (i : Int) (k : Int → α) : α := match i with | .ofNat n => fcN n fun n => k (.ofNat n) | .negSucc n => fcN n fun n => k (.negSucc n)
def fcL (f : D → (D → α) → α) : List D → (List D → α) → α
  | [], k => k []
  | x :: xs, k => f x fun x => fcL f xs fun xs => k (x :: xs)
def fc : Nat → D → (D → α) → α
  | 0, d, k => k d
  | n + 1, d, k => match d with
    | .int i => fcI i fun i => k (.int i)
    | .bl b => (match b with | true => k (.bl true) | false => k (.bl false))
    | .tup xs => fcL (fc n) xs fun xs => k (.tup xs)
    | .lst xs => fcL (fc n) xs fun xs => k (.lst xs)
    | .non => k .non
    | .hnd => k .hnd
    | .dic => k .dic
    | .str x => k (.str x)
theorem fcN_eq (n : Nat) (k : Nat → α) : fcN n k = k n := by cases n <;> rfl
theorem fcI_eq (i : Int) (k : Int → α) : fcI i k = k i := by
  cases i with
  | ofNat n => exact fcN_eq n fun n => k (.ofNat n)
  | negSucc n => exact fcN_eq n fun n => k (.negSucc n)
theorem fcL_eq {f : D → (D → α) → α} (hf : ∀ d k, f d k = k d) : ∀ (xs : List D) (k : List D → α), fcL f xs k = k xs
  | [], _ => rfl
  | x :: xs, k => by
    show f x _ = _
    rw [hf]
    exact fcL_eq hf xs _
theorem fc_eq : ∀ (n : Nat) (d : D) (k : D → α), fc n d k = k d
  | 0, _, _ => rfl
  | n + 1, d, k => by
    cases d with
    | int i => exact fcI_eq i fun i => k (.int i)
    | bl b => cases b <;> rfl
    | tup xs => exact fcL_eq (fc_eq n) xs fun xs => k (.tup xs)
    | lst xs => exact fcL_eq (fc_eq n) xs fun xs => k (.lst xs)
    | _ => rfl
end
def mCallF (φ : List D → R D) (l : ML) : ME := fun st => (l st).bind fun p => fcL (fc 6) p.1 fun ds => (φ ds).bind fun r => fc 6 r fun r => .ok (r, p.2)
theorem mCallF_eq (φ : List D → R D) (l : ML) : mCallF φ l = mCall φ l := by
  funext st
  unfold mCallF mCall
  congr 1
  funext p
  rw [fcL_eq (fc_eq 6)]
  congr 1
  funext r
  rw [fc_eq]
/-! draws taken apart -/
section
variable {α : Type}
def R.to (x : R α) (d : Nat) : R α := match x with | .dr _ k => k d | x => x
def R.isDr (x : R α) (n : Nat) : Bool := match x with | .dr m _ => Nat.beq m n | _ => false
theorem allb_dr {x : R α} {p : α → Bool} (n : Nat) (h : x.isDr n = true) (hd : ∀ d, d < n → (x.to d).allb p = true) : x.allb p = true := by
  cases x with
  | dr m k =>
    have e : m = n := Nat.eq_of_beq_eq_true h
    subst e
    unfold R.allb
    exact List.all_eq_true.mpr fun d hm => hd d (List.mem_range.mp hm)
  | ok a => cases h
  | bad => cases h
def R.rg (x : R α) (p : α → Bool) : Nat → Nat → Bool
  | 0, _ => true
  | c + 1, lo => match (x.to lo).allb p with | true => R.rg x p c (lo + 1) | false => false
theorem rg_ok {x : R α} {p : α → Bool} : ∀ {c lo : Nat}, x.rg p c lo = true → ∀ d, lo ≤ d → d < lo + c → (x.to d).allb p = true
  | 0, lo, _, d, h1, h2 => by omega
  | c + 1, lo, h, d, h1, h2 => by
    unfold R.rg at h
    cases e : (x.to lo).allb p with
    | false => rw [e] at h; cases h
    | true =>
      rw [e] at h
      by_cases q : d = lo
      · rw [q]; exact e
      · exact rg_ok h d (by omega) (by omega)
end
end EV
/-! the evaluator's words again, in a form that the kernel evaluates fast -/
namespace EV
open PySem PySem.Spec PyProof.Rows L2
noncomputable section
section
variable {α β : Type}
def bindK (x : R α) (f : α → R β) : R β := R.rec (motive := fun _ => R β) (fun a => f a) (fun n _ ih => .dr n ih) .bad x
theorem bindK_eq (x : R α) (f : α → R β) : bindK x f = R.bind x f := by
  induction x with
  | ok a => rfl
  | bad => rfl
  | dr n k ih =>
    show R.dr n _ = R.dr n _
    congr 1
    funext d
    exact ih d
def opK (o : Option α) (f : α → R β) : R β := Option.rec (motive := fun _ => R β) .bad (fun a => f a) o
def ooK (o : Option α) (f : α → Option β) : Option β := Option.rec (motive := fun _ => Option β) none (fun a => f a) o
def bK (b : Bool) (x y : α) : α := Bool.rec (motive := fun _ => α) y x b
theorem bK_t (x y : α) : bK true x y = x := rfl
theorem bK_f (x y : α) : bK false x y = y := rfl
end
section
variable {α β : Type}
theorem opK_none (f : α → R β) : opK none f = .bad := rfl
theorem opK_some (a : α) (f : α → R β) : opK (some a) f = f a := rfl
theorem ooK_none (f : α → Option β) : ooK none f = none := rfl
theorem ooK_some (a : α) (f : α → Option β) : ooK (some a) f = f a := rfl
theorem bd_ok (a : α) (f : α → R β) : R.bind (.ok a) f = f a := rfl
theorem bd_bad (f : α → R β) : R.bind .bad f = .bad := rfl
end
/-! slots -/
abbrev GS := AS → Option D
abbrev SS := Option D → AS → AS
def hdK : GS := fun st => List.rec (motive := fun _ => Option D) none (fun x _ _ => x) st
def tlK (k : GS) : GS := fun st => List.rec (motive := fun _ => Option D) none (fun _ r _ => k r) st
def s0K : SS := fun v st => List.rec (motive := fun _ => AS) [] (fun _ r _ => v :: r) st
def stK (k : SS) : SS := fun v st => List.rec (motive := fun _ => AS) [] (fun x r _ => x :: k v r) st
structure GI (i : Nat) (g : GS) : Prop where
  eq : ∀ st, g st = getS st i
structure SI (i : Nat) (s : SS) : Prop where
  eq : ∀ v st, s v st = st.set i v
theorem GI.zero : GI 0 hdK := ⟨fun st => by cases st <;> rfl⟩
theorem GI.succ {i : Nat} {g : GS} (h : GI i g) : GI (i + 1) (tlK g) := ⟨fun st => by
  cases st with
  | nil => rfl
  | cons x r => exact h.eq r⟩
theorem SI.zero : SI 0 s0K := ⟨fun v st => by cases st <;> rfl⟩
theorem SI.succ {i : Nat} {s : SS} (h : SI i s) : SI (i + 1) (stK s) := ⟨fun v st => by
  cases st with
  | nil => rfl
  | cons x r => exact congrArg (x :: ·) (h.eq v r)⟩
/-! pure expressions -/
abbrev PX := AS → Option D
abbrev PB := AS → Option Bool
abbrev PL := AS → Option (List D)
def liE (e : PX) : ME := fun st => opK (e st) fun d => .ok (d, st)
def liT (e : PB) : MT := fun st => opK (e st) fun d => .ok (d, st)
def liL (e : PL) : ML := fun st => opK (e st) fun d => .ok (d, st)
def liI (e : PL) : MI := fun st => opK (e st) fun d => .ok (d, st)
def pK (d : D) : PX := fun _ => some d
def p1 (op : D → Option D) (a : PX) : PX := fun st => ooK (a st) fun x => op x
def p2 (op : D → D → Option D) (a b : PX) : PX := fun st => ooK (a st) fun x => ooK (b st) fun y => op x y
def dB (d : D) : Option Bool := match d with | .bl b => some b | _ => none
def dBK (d : D) : Option Bool := D.casesOn d none (fun b => some b) (fun _ => none) (fun _ => none) (fun _ => none) (fun _ => none) none none
def pT (a : PX) : PB := fun st => ooK (a st) fun x => dBK x
def pNotT (a : PB) : PB := fun st => ooK (a st) fun b => bK b (some false) (some true)
def pAndT (a b : PB) : PB := fun st => ooK (a st) fun x => bK x (b st) (some false)
def pOrT (a b : PB) : PB := fun st => ooK (a st) fun x => bK x (some true) (b st)
def pB (a : PB) : PX := fun st => ooK (a st) fun b => some (.bl b)
def pNotE (a : PX) : PX := fun st => ooK (a st) fun x => ooK (dBK x) fun b => bK b (some (.bl false)) (some (.bl true))
def pAndE (a b : PX) : PX := fun st => ooK (a st) fun x => ooK (dBK x) fun c => bK c (b st) (some (.bl false))
def pOrE (a b : PX) : PX := fun st => ooK (a st) fun x => ooK (dBK x) fun c => bK c (some (.bl true)) (b st)
def pIf (t : PB) (a b : PX) : PX := fun st => ooK (t st) fun c => bK c (a st) (b st)
def pNil : PL := fun _ => some []
def pCons (a : PX) (l : PL) : PL := fun st => ooK (a st) fun x => ooK (l st) fun xs => some (x :: xs)
def seqOk (xs : List D) : Bool := lenOk xs.length && xs.all (fun d => !isH d)
def nHK (d : D) : Bool := D.casesOn d true (fun _ => true) (fun _ => true) (fun _ => true) (fun _ => true) (fun _ => true) false true
def allNH (xs : List D) : Bool := List.rec (motive := fun _ => Bool) true (fun x _ ih => bK (nHK x) ih false) xs
def lenK (xs : List D) (n : Nat) : Bool := List.rec (motive := fun _ => Nat → Bool) (fun n => Nat.ble n 16000000) (fun _ _ ih n => ih (Nat.succ n)) xs n
def pTup (l : PL) : PX := fun st => ooK (l st) fun xs => bK (bK (lenK xs 0) (allNH xs) false) (some (.tup xs)) none
def pLst (l : PL) : PX := fun st => ooK (l st) fun xs => bK (bK (lenK xs 0) (allNH xs) false) (some (.lst xs)) none
theorem dBK_eq (d : D) : dBK d = dB d := by cases d <;> rfl
theorem nHK_eq (d : D) : nHK d = !isH d := by cases d <;> rfl
theorem allNH_eq (xs : List D) : allNH xs = xs.all (fun d => !isH d) := by
  induction xs with
  | nil => rfl
  | cons x r ih =>
    show bK (nHK x) (allNH r) false = _
    rw [ih, nHK_eq, List.all_cons]
    cases isH x <;> rfl
theorem lenK_eq : ∀ (xs : List D) (n : Nat), lenK xs n = lenOk (n + xs.length)
  | [], n => rfl
  | x :: r, n => by
    show lenK r (n + 1) = _
    rw [lenK_eq r, List.length_cons]
    congr 1
    omega
theorem seqK_eq (xs : List D) : bK (lenK xs 0) (allNH xs) false = (lenOk xs.length && xs.all (fun d => !isH d)) := by
  rw [lenK_eq, allNH_eq, Nat.zero_add]
  cases lenOk xs.length <;> rfl
/-! the same as the evaluator's -/
section
variable {i : Nat} {g : GS} {s : SS}
theorem q_k (d : D) : liE (pK d) = mK d := rfl
theorem q_v (h : GI i g) : liE g = mV i := by
  funext st
  unfold liE mV
  rw [h.eq]
  cases getS st i <;> rfl
theorem q_1 (op : D → Option D) (a : PX) : liE (p1 op a) = m1 op (liE a) := by
  funext st
  dsimp only [liE, p1, m1]
  cases a st with
  | none => rfl
  | some x =>
    show opK (op x) _ = (match op x with | some d => _ | none => _)
    cases op x <;> rfl
theorem q_2 (op : D → D → Option D) (a b : PX) : liE (p2 op a b) = m2 op (liE a) (liE b) := by
  funext st
  dsimp only [liE, p2, m2]
  cases ha : a st with
  | none => rfl
  | some x =>
    simp only [ooK_some, opK_some, bd_ok]
    cases hb : b st with
    | none => rfl
    | some y =>
      simp only [ooK_some, opK_some, bd_ok]
      cases op x y <;> rfl
theorem q_T (a : PX) : liT (pT a) = tVal (liE a) := by
  funext st
  dsimp only [liT, pT, tVal, liE]
  cases a st with
  | none => rfl
  | some x => cases x <;> rfl
theorem q_notT (a : PB) : liT (pNotT a) = tNot (liT a) := by
  funext st
  dsimp only [liT, pNotT, tNot]
  cases a st with
  | none => rfl
  | some x => cases x <;> rfl
theorem q_andT (a b : PB) : liT (pAndT a b) = tAnd (liT a) (liT b) := by
  funext st
  dsimp only [liT, pAndT, tAnd]
  cases a st with
  | none => rfl
  | some x => cases x <;> rfl
theorem q_orT (a b : PB) : liT (pOrT a b) = tOr (liT a) (liT b) := by
  funext st
  dsimp only [liT, pOrT, tOr]
  cases a st with
  | none => rfl
  | some x => cases x <;> rfl
theorem q_notE (a : PX) : liE (pNotE a) = mNot (liE a) := by
  funext st
  dsimp only [liE, pNotE, mNot]
  cases a st with
  | none => rfl
  | some x =>
    cases x with
    | bl b => cases b <;> rfl
    | _ => rfl
theorem q_andE (a b : PX) : liE (pAndE a b) = mAnd (liE a) (liE b) := by
  funext st
  dsimp only [liE, pAndE, mAnd]
  cases a st with
  | none => rfl
  | some x =>
    cases x with
    | bl b => cases b <;> rfl
    | _ => rfl
theorem q_orE (a b : PX) : liE (pOrE a b) = mOr (liE a) (liE b) := by
  funext st
  dsimp only [liE, pOrE, mOr]
  cases a st with
  | none => rfl
  | some x =>
    cases x with
    | bl b => cases b <;> rfl
    | _ => rfl
theorem q_if (t : PB) (a b : PX) : liE (pIf t a b) = mIf (liT t) (liE a) (liE b) := by
  funext st
  dsimp only [liE, pIf, mIf, liT]
  cases t st with
  | none => rfl
  | some x => cases x <;> rfl
theorem q_nil : liL pNil = lNil := rfl
theorem q_cons (a : PX) (l : PL) : liL (pCons a l) = lCons (liE a) (liL l) := by
  funext st
  dsimp only [liL, pCons, lCons, liE]
  cases a st with
  | none => rfl
  | some x =>
    simp only [ooK_some, opK_some, bd_ok]
    cases l st <;> rfl
theorem q_tup (l : PL) : liE (pTup l) = mTup (liL l) := by
  funext st
  dsimp only [liE, pTup, mTup, liL]
  cases l st with
  | none => rfl
  | some xs =>
    show opK (bK (bK (lenK xs 0) (allNH xs) false) _ _) _ = (match lenOk xs.length && xs.all (fun d => !isH d) with | true => _ | false => _)
    rw [seqK_eq]
    cases (lenOk xs.length && xs.all (fun d => !isH d)) <;> rfl
theorem q_lst (l : PL) : liE (pLst l) = mLst (liL l) := by
  funext st
  dsimp only [liE, pLst, mLst, liL]
  cases l st with
  | none => rfl
  | some xs =>
    show opK (bK (bK (lenK xs 0) (allNH xs) false) _ _) _ = (match lenOk xs.length && xs.all (fun d => !isH d) with | true => _ | false => _)
    rw [seqK_eq]
    cases (lenOk xs.length && xs.all (fun d => !isH d)) <;> rfl
end
/-! slices -/
abbrev PO' := AS → Option (Option Int)
def liO (e : PO') : MO := fun st => opK (e st) fun d => .ok (d, st)
def pNo : PO' := fun _ => some none
def dI (d : D) : Option Int := match d with | .int i => some i | _ => none
def dIK (d : D) : Option Int := D.casesOn d none (fun _ => none) (fun i => some i) (fun _ => none) (fun _ => none) (fun _ => none) none none
def pPart (a : PX) : PO' := fun st => ooK (a st) fun x => ooK (dIK x) fun i => some (some i)
def slD (own : Bool) (x : D) (lo hi : Option Int) : Option D := match x with
  | .lst xs => some (.lst (cutD xs lo hi))
  | .tup xs => bK own none (some (.tup (cutD xs lo hi)))
  | _ => none
def pSl (own : Bool) (a : PX) (lo hi : PO') : PX := fun st => ooK (a st) fun x => ooK (lo st) fun l => ooK (hi st) fun h => slD own x l h
theorem q_no : liO pNo = mNo := rfl
theorem q_part (a : PX) : liO (pPart a) = mPart (liE a) := by
  funext st
  dsimp only [liO, pPart, mPart, liE]
  cases a st with
  | none => rfl
  | some x => cases x <;> rfl
theorem q_sl (own : Bool) (a : PX) (lo hi : PO') : liE (pSl own a lo hi) = mSl own (liE a) (liO lo) (liO hi) := by
  funext st
  dsimp only [liE, pSl, mSl, liO]
  cases a st with
  | none => rfl
  | some x =>
    simp only [ooK_some, opK_some, bd_ok]
    cases lo st with
    | none => rfl
    | some l =>
      simp only [ooK_some, opK_some, bd_ok]
      cases hi st with
      | none => rfl
      | some h =>
        simp only [ooK_some, opK_some, bd_ok]
        cases x with
        | tup xs => cases own <;> rfl
        | _ => rfl
end
end EV
/-! .. statements, comprehensions, calls -/
namespace EV
open PySem PySem.Spec PyProof.Rows L2
noncomputable section
theorem bd_assoc {α β γ : Type} {f : α → R β} {g : β → R γ} : ∀ x : R α, R.bind (R.bind x f) g = R.bind x fun a => R.bind (f a) g
  | .ok _ => rfl
  | .bad => rfl
  | .dr n k => congrArg (R.dr n) (funext fun d => bd_assoc (k d))
theorem bd_id {α : Type} : ∀ x : R α, R.bind x .ok = x
  | .ok _ => rfl
  | .bad => rfl
  | .dr n k => congrArg (R.dr n) (funext fun d => bd_id (k d))
theorem opK_bd {α β γ : Type} (o : Option α) (f : α → R β) (g : β → R γ) : R.bind (opK o f) g = opK o fun a => R.bind (f a) g := by cases o <;> rfl
theorem opK_oo {α β γ : Type} (o : Option α) (f : α → Option β) (g : β → R γ) : opK (ooK o f) g = opK o fun a => opK (f a) g := by cases o <;> rfl
theorem bK_bd {β γ : Type} (c : Bool) (x y : R β) (g : β → R γ) : R.bind (bK c x y) g = bK c (R.bind x g) (R.bind y g) := by cases c <;> rfl
theorem bK_op {β γ : Type} (c : Bool) (x y : Option β) (g : β → R γ) : opK (bK c x y) g = bK c (opK x g) (opK y g) := by cases c <;> rfl
theorem bK_m {β : Type} (c : Bool) (x y : β) : bK c x y = (match c with | true => x | false => y) := by cases c <;> rfl
/-! targets -/
abbrev AT := D → AS → Option AS
abbrev ALs := List D → AS → Option AS
structure PtI (p : Pat) (A : AT) : Prop where
  eq : ∀ d st, A d st = asg p d st
structure PlI (p : Pat) (A : ALs) : Prop where
  eq : ∀ ds st, A ds st = asg p (.lst ds) st
def aNm (s : SS) : AT := fun d st => some (s (some d) st)
def aTp (A : ALs) : AT := fun d st => D.casesOn d none (fun _ => none) (fun _ => none) (fun _ => none) (fun xs => A xs st) (fun xs => A xs st) none none
def aNil : ALs := fun xs st => List.rec (motive := fun _ => Option AS) (some st) (fun _ _ _ => none) xs
def aCons (A : AT) (B : ALs) : ALs := fun xs st => List.rec (motive := fun _ => Option AS) none (fun x r _ => ooK (A x st) fun st1 => B r st1) xs
theorem PtI.nm {i : Nat} {s : SS} (h : SI i s) : PtI (.nm i) (aNm s) := ⟨fun d st => by
  show some _ = some _
  rw [h.eq]⟩
theorem PtI.tp {p : Pat} {A : ALs} (h : PlI p A) : PtI (.tp p) (aTp A) := ⟨fun d st => by
  cases d with
  | tup xs => exact h.eq xs st
  | lst xs => exact h.eq xs st
  | _ => rfl⟩
theorem PlI.nil : PlI .nil aNil := ⟨fun xs st => by cases xs <;> rfl⟩
theorem PlI.cons {p q : Pat} {A : AT} {B : ALs} (h : PtI p A) (h2 : PlI q B) : PlI (.cons p q) (aCons A B) := ⟨fun xs st => by
  cases xs with
  | nil => rfl
  | cons x r =>
    show ooK (A x st) _ = (match asg p x st with | some st' => asg q (.lst r) st' | none => none)
    rw [h.eq]
    cases asg p x st with
    | none => rfl
    | some st1 => exact h2.eq r st1⟩
structure WI (own : List Nat) (w : AS → AS) : Prop where
  eq : ∀ st, w st = wipeA st own
theorem WI.nil : WI [] id := ⟨fun _ => rfl⟩
theorem WI.cons {i : Nat} {own : List Nat} {s : SS} {w : AS → AS} (h : SI i s) (h2 : WI own w) : WI (i :: own) (fun st => s none (w st)) := ⟨fun st => by
  show s none (w st) = (wipeA st own).set i none
  rw [h.eq, h2.eq]⟩
/-! chains, comprehensions -/
def pChain (p q : Int → Int → Bool) (a b c : PX) : PX := fun st => ooK (a st) fun x => ooK (dIK x) fun i => ooK (b st) fun y => ooK (dIK y) fun j => bK (p i j) (ooK (c st) fun z => ooK (dIK z) fun k => some (.bl (q j k))) (some (.bl false))
theorem q_chain (p q : Int → Int → Bool) (a b c : PX) : liE (pChain p q a b c) = mChain p q (liE a) (liE b) (liE c) := by
  funext st
  dsimp only [liE, pChain, mChain]
  cases a st with
  | none => rfl
  | some x =>
    simp only [ooK_some, opK_some, bd_ok]
    cases b st with
    | none => cases x <;> rfl
    | some y =>
      simp only [ooK_some, opK_some, bd_ok]
      cases x with
      | int i =>
        cases y with
        | int j =>
          show opK (bK (p i j) _ _) _ = (match p i j with | true => _ | false => _)
          cases p i j with
          | false => rfl
          | true =>
            show opK (ooK (c st) _) _ = R.bind (opK (c st) _) _
            cases c st with
            | none => rfl
            | some z => cases z <;> rfl
        | _ => rfl
      | _ => rfl
def lcP (A : AT) (c : PB) (e : PX) (st : AS) (ds : List D) : Nat → Option (List D) := List.rec (motive := fun _ => Nat → Option (List D)) (fun _ => some [])
  (fun d _ ih n => ooK (A d st) fun st1 => ooK (c st1) fun b => bK b (ooK (e st1) fun x => bK (nHK x) (bK (Nat.ble n 16000000) (ooK (ih (Nat.succ n)) fun r => some (x :: r)) none) none) (ih n)) ds
theorem cc_if (a b : Bool) {α : Type} (x y : α) : (match a || !b with | true => x | false => y) = bK (!a) (bK b y x) x := by cases a <;> cases b <;> rfl
theorem lcP_eq {p : Pat} {A : AT} (hA : PtI p A) (c : PB) (e : PX) (st : AS) : ∀ (ds acc : List D), lcL p (liT c) (liE e) st ds acc = opK (lcP A c e st ds acc.length) fun r => .ok (acc ++ r)
  | [], acc => by
    show R.ok acc = R.ok (acc ++ [])
    rw [List.append_nil]
  | d :: r, acc => by
    show (match asg p d st with | some st1 => _ | none => R.bad) = opK (ooK (A d st) _) _
    rw [hA.eq]
    cases asg p d st with
    | none => rfl
    | some st1 =>
      show R.bind (opK (c st1) _) _ = opK (ooK (c st1) _) _
      cases c st1 with
      | none => rfl
      | some b =>
        cases b with
        | false => exact lcP_eq hA c e st r acc
        | true =>
          show R.bind (opK (e st1) _) _ = opK (ooK (e st1) _) _
          cases e st1 with
          | none => rfl
          | some x =>
            show (match isH x || !(lenOk acc.length) with | true => R.bad | false => lcL p (liT c) (liE e) st r (acc ++ [x])) = opK (bK (nHK x) (bK (lenOk acc.length) (ooK (lcP A c e st r (acc.length + 1)) _) none) none) _
            rw [cc_if, ← nHK_eq, bK_op, bK_op, lcP_eq hA c e st r (acc ++ [x]), List.length_append]
            congr 2
            show opK (lcP A c e st r (acc.length + 1)) _ = opK (ooK (lcP A c e st r (acc.length + 1)) _) _
            cases lcP A c e st r (acc.length + 1) with
            | none => rfl
            | some l =>
              show R.ok (acc ++ [x] ++ l) = R.ok (acc ++ (x :: l))
              rw [List.append_assoc]
              rfl
def pLc (s : PL) (A : AT) (w : AS → AS) (c : PB) (e : PX) : PX := fun st => ooK (s st) fun ds => ooK (lcP A c e (w st) ds 0) fun l => some (.lst l)
theorem q_lc {p : Pat} {A : AT} {own : List Nat} {w : AS → AS} (hA : PtI p A) (hw : WI own w) (s : PL) (c : PB) (e : PX) : liE (pLc s A w c e) = mLc (liI s) p (liT c) (liE e) own := by
  funext st
  dsimp only [liE, pLc, mLc, liI]
  cases s st with
  | none => rfl
  | some ds =>
    simp only [ooK_some, opK_some, bd_ok]
    have := lcP_eq hA c e (wipeA st own) ds []
    rw [this, hw.eq]
    show _ = R.bind (opK (lcP A c e (wipeA st own) ds 0) _) _
    cases lcP A c e (wipeA st own) ds 0 <;> rfl
def pYes : PB := fun _ => some true
theorem q_yes : liT pYes = tYesM := rfl
/-! .. with calls -/
def lcK (A : AT) (c : MT) (e : ME) (st : AS) (ds : List D) : Nat → R (List D) := List.rec (motive := fun _ => Nat → R (List D)) (fun _ => .ok [])
  (fun d _ ih n => opK (A d st) fun st1 => bindK (c st1) fun b => bK b.1 (bindK (e st1) fun x => bK (nHK x.1) (bK (Nat.ble n 16000000) (bindK (ih (Nat.succ n)) fun r => .ok (x.1 :: r)) .bad) .bad) (ih n)) ds
theorem lcK_eq {p : Pat} {A : AT} (hA : PtI p A) (c : MT) (e : ME) (st : AS) : ∀ (ds acc : List D), lcL p c e st ds acc = R.bind (lcK A c e st ds acc.length) fun r => .ok (acc ++ r)
  | [], acc => by
    show R.ok acc = R.ok (acc ++ [])
    rw [List.append_nil]
  | d :: r, acc => by
    show (match asg p d st with | some st1 => _ | none => R.bad) = R.bind (opK (A d st) _) _
    rw [hA.eq]
    cases asg p d st with
    | none => rfl
    | some st1 =>
      show R.bind (c st1) _ = R.bind (bindK (c st1) _) _
      rw [bindK_eq, bd_assoc]
      congr 1
      funext b
      obtain ⟨b, sb⟩ := b
      cases b with
      | false => exact lcK_eq hA c e st r acc
      | true =>
        show R.bind (e st1) _ = R.bind (bindK (e st1) _) _
        rw [bindK_eq, bd_assoc]
        congr 1
        funext x
        show (match isH x.1 || !(lenOk acc.length) with | true => R.bad | false => lcL p c e st r (acc ++ [x.1])) = R.bind (bK (nHK x.1) (bK (lenOk acc.length) (bindK (lcK A c e st r (acc.length + 1)) _) .bad) .bad) _
        rw [cc_if, ← nHK_eq, bK_bd, bK_bd, lcK_eq hA c e st r (acc ++ [x.1]), List.length_append, bindK_eq, bd_assoc]
        congr 2
        show R.bind (lcK A c e st r (acc.length + 1)) _ = R.bind (lcK A c e st r (acc.length + 1)) _
        congr 1
        funext l
        show R.ok (acc ++ [x.1] ++ l) = R.ok (acc ++ (x.1 :: l))
        rw [List.append_assoc]
        rfl
def mLcK (s : MI) (A : AT) (w : AS → AS) (c : MT) (e : ME) : ME := fun st => bindK (s st) fun x => bindK (lcK A c e (w x.2) x.1 0) fun l => .ok (.lst l, x.2)
theorem q_lcK {p : Pat} {A : AT} {own : List Nat} {w : AS → AS} (hA : PtI p A) (hw : WI own w) (s : MI) (c : MT) (e : ME) : mLcK s A w c e = mLc s p c e own := by
  funext st
  unfold mLcK mLc
  rw [bindK_eq]
  congr 1
  funext x
  rw [bindK_eq, lcK_eq hA, hw.eq]
  show R.bind (lcK A c e (wipeA x.2 own) x.1 0) _ = R.bind (R.bind (lcK A c e (wipeA x.2 own) x.1 0) _) _
  rw [bd_assoc]
  rfl
/-! sources -/
def sqD (d : D) : Option (List D) := D.casesOn d none (fun _ => none) (fun _ => none) (fun _ => none) (fun xs => some xs) (fun xs => some xs) none none
def pSeq (a : PX) : PL := fun st => ooK (a st) fun x => sqD x
theorem q_seq (a : PX) : liI (pSeq a) = sSeq (liE a) := by
  funext st
  dsimp only [liI, pSeq, sSeq, liE]
  cases a st with
  | none => rfl
  | some x => cases x <;> rfl
def rngK (n : Nat) : Int → List D := Nat.rec (motive := fun _ => Int → List D) (fun _ => []) (fun _ ih lo => fcI lo fun lo => .int lo :: ih (lo + 1)) n
theorem rngK_eq : ∀ (n : Nat) (lo : Int), rngK n lo = rng lo n
  | 0, _ => rfl
  | n + 1, lo => by
    show fcI lo (fun lo => D.int lo :: rngK n (lo + 1)) = _
    rw [fcI_eq, rngK_eq n]
    rfl
def pR1 (a : PX) : PL := fun st => ooK (a st) fun x => ooK (dIK x) fun n => bK (fits62 n) (some (rngK n.toNat 0)) none
theorem q_r1 (a : PX) : liI (pR1 a) = sR1 (liE a) := by
  funext st
  dsimp only [liI, pR1, sR1, liE]
  cases a st with
  | none => rfl
  | some x =>
    cases x with
    | int n =>
      show opK (bK (fits62 n) _ _) _ = (match fits62 n with | true => _ | false => _)
      cases fits62 n with
      | true =>
        show R.ok (rngK n.toNat 0, st) = R.ok (rng 0 n.toNat, st)
        rw [rngK_eq]
      | false => rfl
    | _ => rfl
def pR2 (a b : PX) : PL := fun st => ooK (a st) fun x => ooK (b st) fun y => ooK (dIK x) fun i => ooK (dIK y) fun j => bK (bK (fits62 i) (fits62 j) false) (some (rngK (j - i).toNat i)) none
theorem q_r2 (a b : PX) : liI (pR2 a b) = sR2 (liE a) (liE b) := by
  funext st
  dsimp only [liI, pR2, sR2, liE]
  cases a st with
  | none => rfl
  | some x =>
    simp only [ooK_some, opK_some, bd_ok]
    cases b st with
    | none => rfl
    | some y =>
      simp only [ooK_some, opK_some, bd_ok]
      cases x with
      | int i =>
        cases y with
        | int j =>
          show opK (bK (bK (fits62 i) (fits62 j) false) (some (rngK (j - i).toNat i)) none) _ = (match fits62 i && fits62 j with | true => _ | false => _)
          rw [rngK_eq]
          cases fits62 i <;> cases fits62 j <;> rfl
        | _ => rfl
      | _ => rfl
def zipK (xs : List D) : List D → List D := List.rec (motive := fun _ => List D → List D) (fun _ => []) (fun x _ ih ys => List.rec (motive := fun _ => List D) [] (fun y r _ => .tup [x, y] :: ih r) ys) xs
theorem zipK_eq : ∀ xs ys : List D, zipK xs ys = zipD xs ys
  | [], _ => rfl
  | x :: xs, [] => rfl
  | x :: xs, y :: ys => congrArg (D.tup [x, y] :: ·) (zipK_eq xs ys)
def zpD (x y : D) : Option (List D) := match x with
  | .lst xs => match y with | .lst ys => some (zipK xs ys) | _ => none
  | .tup xs => match y with | .tup ys => some (zipK xs ys) | _ => none
  | _ => none
def pZip (a b : PX) : PL := fun st => ooK (a st) fun x => ooK (b st) fun y => zpD x y
theorem q_zip (a b : PX) : liI (pZip a b) = sZip (liE a) (liE b) := by
  funext st
  dsimp only [liI, pZip, sZip, liE]
  cases a st with
  | none => rfl
  | some x =>
    simp only [ooK_some, opK_some, bd_ok]
    cases b st with
    | none => rfl
    | some y =>
      simp only [ooK_some, opK_some, bd_ok]
      cases x <;> cases y <;> simp only [zpD, zipK_eq] <;> rfl
def enumK (xs : List D) : Int → List D := List.rec (motive := fun _ => Int → List D) (fun _ => []) (fun x _ ih i => fcI i fun i => .tup [.int i, x] :: ih (i + 1)) xs
theorem enumK_eq : ∀ (xs : List D) (i : Int), enumK xs i = enumD i xs
  | [], _ => rfl
  | x :: xs, i => by
    show fcI i (fun i => D.tup [.int i, x] :: enumK xs (i + 1)) = _
    rw [fcI_eq, enumK_eq xs]
    rfl
def pEnum (a : PX) : PL := fun st => ooK (a st) fun x => ooK (sqD x) fun xs => some (enumK xs 0)
theorem q_enum (a : PX) : liI (pEnum a) = sEnumT (liE a) := by
  funext st
  dsimp only [liI, pEnum, sEnumT, liE]
  cases a st with
  | none => rfl
  | some x => cases x <;> simp only [enumK_eq, ooK_some, opK_some, bd_ok, sqD] <;> rfl
end
end EV
/-! .. statements, calls -/
namespace EV
open PySem PySem.Spec PyProof.Rows L2
noncomputable section
section
variable {i j k : Nat} {g : GS} {s s2 s3 : SS} {p : Pat} {A : AT}
theorem q_m (hg : GI i g) (hs : SI i s) : (fun st => opK (g st) fun d => .ok (d, s none st)) = mM i := by
  funext st
  unfold mM
  rw [hg.eq, hs.eq]
  cases getS st i <;> rfl
def mMK (g : GS) (s : SS) : ME := fun st => opK (g st) fun d => .ok (d, s none st)
theorem q_mm (hg : GI i g) (hs : SI i s) : mMK g s = mM i := q_m hg hs
def m1K (op : D → Option D) (m : ME) : ME := fun st => bindK (m st) fun p => opK (op p.1) fun d => .ok (d, p.2)
theorem q_m1 (op : D → Option D) (m : ME) : m1K op m = m1 op m := by
  funext st
  unfold m1K m1
  rw [bindK_eq]
  congr 1
  funext p
  cases op p.1 <;> rfl
def m2K (op : D → D → Option D) (m n : ME) : ME := fun st => bindK (m st) fun p => bindK (n p.2) fun q => opK (op p.1 q.1) fun d => .ok (d, q.2)
theorem q_m2 (op : D → D → Option D) (m n : ME) : m2K op m n = m2 op m n := by
  funext st
  unfold m2K m2
  rw [bindK_eq]
  congr 1
  funext p
  rw [bindK_eq]
  congr 1
  funext q
  cases op p.1 q.1 <;> rfl
def tValK (m : ME) : MT := fun st => bindK (m st) fun p => opK (dBK p.1) fun b => .ok (b, p.2)
theorem q_tVal (m : ME) : tValK m = tVal m := by
  funext st
  unfold tValK tVal
  rw [bindK_eq]
  congr 1
  funext p
  obtain ⟨d, s⟩ := p
  cases d <;> rfl
def tAndK (a b : MT) : MT := fun st => bindK (a st) fun p => bK p.1 (b p.2) (.ok (false, p.2))
theorem q_tAnd (a b : MT) : tAndK a b = tAnd a b := by
  funext st
  unfold tAndK tAnd
  rw [bindK_eq]
  congr 1
  funext p
  obtain ⟨c, s⟩ := p
  cases c <;> rfl
def tOrK (a b : MT) : MT := fun st => bindK (a st) fun p => bK p.1 (.ok (true, p.2)) (b p.2)
theorem q_tOr (a b : MT) : tOrK a b = tOr a b := by
  funext st
  unfold tOrK tOr
  rw [bindK_eq]
  congr 1
  funext p
  obtain ⟨c, s⟩ := p
  cases c <;> rfl
def tNotK (a : MT) : MT := fun st => bindK (a st) fun p => .ok (!p.1, p.2)
theorem q_tNot (a : MT) : tNotK a = tNot a := by
  funext st
  unfold tNotK tNot
  rw [bindK_eq]
def mAndK (a b : ME) : ME := fun st => bindK (a st) fun p => opK (dBK p.1) fun c => bK c (b p.2) (.ok (.bl false, p.2))
theorem q_mAnd (a b : ME) : mAndK a b = mAnd a b := by
  funext st
  unfold mAndK mAnd
  rw [bindK_eq]
  congr 1
  funext p
  obtain ⟨d, s⟩ := p
  cases d with
  | bl c => cases c <;> rfl
  | _ => rfl
def mOrK (a b : ME) : ME := fun st => bindK (a st) fun p => opK (dBK p.1) fun c => bK c (.ok (.bl true, p.2)) (b p.2)
theorem q_mOr (a b : ME) : mOrK a b = mOr a b := by
  funext st
  unfold mOrK mOr
  rw [bindK_eq]
  congr 1
  funext p
  obtain ⟨d, s⟩ := p
  cases d with
  | bl c => cases c <;> rfl
  | _ => rfl
def mNotK (a : ME) : ME := fun st => bindK (a st) fun p => opK (dBK p.1) fun c => .ok (.bl (!c), p.2)
theorem q_mNot (a : ME) : mNotK a = mNot a := by
  funext st
  unfold mNotK mNot
  rw [bindK_eq]
  congr 1
  funext p
  obtain ⟨d, s⟩ := p
  cases d <;> rfl
def mIfK (t : MT) (a b : ME) : ME := fun st => bindK (t st) fun p => bK p.1 (a p.2) (b p.2)
theorem q_mIf (t : MT) (a b : ME) : mIfK t a b = mIf t a b := by
  funext st
  unfold mIfK mIf
  rw [bindK_eq]
  congr 1
  funext p
  obtain ⟨c, s⟩ := p
  cases c <;> rfl
def lConsK (m : ME) (l : ML) : ML := fun st => bindK (m st) fun p => bindK (l p.2) fun q => .ok (p.1 :: q.1, q.2)
theorem q_lCons (m : ME) (l : ML) : lConsK m l = lCons m l := by
  funext st
  unfold lConsK lCons
  rw [bindK_eq]
  congr 1
  funext p
  rw [bindK_eq]
def mTupK (l : ML) : ME := fun st => bindK (l st) fun p => bK (bK (lenK p.1 0) (allNH p.1) false) (.ok (.tup p.1, p.2)) .bad
theorem q_mTup (l : ML) : mTupK l = mTup l := by
  funext st
  unfold mTupK mTup
  rw [bindK_eq]
  congr 1
  funext p
  rw [seqK_eq]
  cases (lenOk p.1.length && p.1.all (fun d => !isH d)) <;> rfl
def mLstK (l : ML) : ME := fun st => bindK (l st) fun p => bK (bK (lenK p.1 0) (allNH p.1) false) (.ok (.lst p.1, p.2)) .bad
theorem q_mLst (l : ML) : mLstK l = mLst l := by
  funext st
  unfold mLstK mLst
  rw [bindK_eq]
  congr 1
  funext p
  rw [seqK_eq]
  cases (lenOk p.1.length && p.1.all (fun d => !isH d)) <;> rfl
/-! calls -/
def fcNK {α : Type} (n : Nat) (k : Nat → α) : α := Nat.rec (motive := fun _ => α) (k 0) (fun m _ => k (Nat.succ m)) n
def fcIK {α : Type} (i : Int) (k : Int → α) : α := Int.rec (motive := fun _ => α) (fun n => fcNK n fun n => k (.ofNat n)) (fun n => fcNK n fun n => k (.negSucc n)) i
def fcLK {α : Type} (f : D → (D → α) → α) (xs : List D) : (List D → α) → α := List.rec (motive := fun _ => (List D → α) → α) (fun k => k []) (fun x _ ih k => f x fun x => ih fun xs => k (x :: xs)) xs
def fcK {α : Type} (n : Nat) : D → (D → α) → α := Nat.rec (motive := fun _ => D → (D → α) → α) (fun d k => k d)
  (fun _ ih d k => D.casesOn d (k .non) (fun b => bK b (k (.bl true)) (k (.bl false))) (fun i => fcIK i fun i => k (.int i)) (fun x => k (.str x)) (fun xs => fcLK ih xs fun xs => k (.tup xs)) (fun xs => fcLK ih xs fun xs => k (.lst xs)) (k .hnd) (k .dic)) n
theorem fcNK_eq {α : Type} (n : Nat) (k : Nat → α) : fcNK n k = k n := by cases n <;> rfl
theorem fcIK_eq {α : Type} (i : Int) (k : Int → α) : fcIK i k = k i := by
  cases i with
  | ofNat n => exact fcNK_eq n fun n => k (.ofNat n)
  | negSucc n => exact fcNK_eq n fun n => k (.negSucc n)
theorem fcLK_eq {α : Type} {f : D → (D → α) → α} (hf : ∀ d k, f d k = k d) : ∀ (xs : List D) (k : List D → α), fcLK f xs k = k xs
  | [], _ => rfl
  | x :: xs, k => by
    show f x _ = _
    rw [hf]
    exact fcLK_eq hf xs _
theorem fcK_eq {α : Type} : ∀ (n : Nat) (d : D) (k : D → α), fcK n d k = k d
  | 0, _, _ => rfl
  | n + 1, d, k => by
    cases d with
    | int i => exact fcIK_eq i fun i => k (.int i)
    | bl b => cases b <;> rfl
    | tup xs => exact fcLK_eq (fcK_eq n) xs fun xs => k (.tup xs)
    | lst xs => exact fcLK_eq (fcK_eq n) xs fun xs => k (.lst xs)
    | _ => rfl
def mCallK (φ : List D → R D) (l : ML) : ME := fun st => bindK (l st) fun p => fcLK (fcK 6) p.1 fun ds => bindK (φ ds) fun r => fcK 6 r fun r => .ok (r, p.2)
theorem q_call (φ : List D → R D) (l : ML) : mCallK φ l = mCall φ l := by
  funext st
  unfold mCallK mCall
  rw [bindK_eq]
  congr 1
  funext p
  rw [fcLK_eq (fcK_eq 6), bindK_eq]
  congr 1
  funext r
  rw [fcK_eq]
/-! arguments that are pure -/
def mCallP (φ : List D → R D) (l : PL) : ME := fun st => opK (l st) fun xs => fcLK (fcK 6) xs fun ds => bindK (φ ds) fun r => fcK 6 r fun r => .ok (r, st)
theorem q_callP (φ : List D → R D) (l : PL) : mCallP φ l = mCall φ (liL l) := by
  rw [← q_call]
  funext st
  unfold mCallP mCallK liL
  rw [bindK_eq, opK_bd]
  rfl
/-! statements -/
def flK (f : Fl) (n : AS → R Fl) (r : D → R Fl) (b c : AS → R Fl) : R Fl := Fl.casesOn f n r b c
def sSqK (a b : MS) : MS := fun st => bindK (a st) fun f => flK f b (fun d => .ok (.rt d)) (fun s => .ok (.bk s)) (fun s => .ok (.ct s))
theorem q_sq (a b : MS) : sSqK a b = sSq a b := by
  funext st
  unfold sSqK sSq
  rw [bindK_eq]
  congr 1
  funext f
  cases f <;> rfl
def sRetP (e : PX) : MS := fun st => opK (e st) fun d => .ok (.rt d)
theorem q_retP (e : PX) : sRetP e = sRet (liE e) := by
  funext st
  dsimp only [sRetP, sRet, liE]
  rw [opK_bd]
  rfl
def sRetK (m : ME) : MS := fun st => bindK (m st) fun p => .ok (.rt p.1)
theorem q_retK (m : ME) : sRetK m = sRet m := by
  funext st
  unfold sRetK sRet
  rw [bindK_eq]
def sIfP (t : PB) (a b : MS) : MS := fun st => opK (t st) fun c => bK c (a st) (b st)
theorem q_ifP (t : PB) (a b : MS) : sIfP t a b = sIfS (liT t) a b := by
  funext st
  dsimp only [sIfP, sIfS, liT]
  rw [opK_bd]
  congr 1
  funext c
  rw [bK_m]
  rfl
def sIfK (t : MT) (a b : MS) : MS := fun st => bindK (t st) fun p => bK p.1 (a p.2) (b p.2)
theorem q_ifK (t : MT) (a b : MS) : sIfK t a b = sIfS t a b := by
  funext st
  unfold sIfK sIfS
  rw [bindK_eq]
  congr 1
  funext p
  obtain ⟨c, s⟩ := p
  cases c <;> rfl
def sAsP (A : AT) (e : PX) : MS := fun st => opK (e st) fun x => opK (A x st) fun st' => .ok (.nx st')
theorem q_asP (h : PtI p A) (e : PX) : sAsP A e = sAs p (liE e) := by
  funext st
  dsimp only [sAsP, sAs, liE]
  rw [opK_bd]
  congr 1
  funext x
  rw [h.eq]
  show _ = (match asg p x st with | some st' => R.ok (Fl.nx st') | none => .bad)
  cases asg p x st <;> rfl
def sAsK (A : AT) (m : ME) : MS := fun st => bindK (m st) fun x => opK (A x.1 x.2) fun st' => .ok (.nx st')
theorem q_asK (h : PtI p A) (m : ME) : sAsK A m = sAs p m := by
  funext st
  unfold sAsK sAs
  rw [bindK_eq]
  congr 1
  funext x
  rw [h.eq]
  cases asg p x.1 x.2 <;> rfl
def sAoP (s : SS) (e : PX) : MS := fun st => opK (e st) fun x => .ok (.nx (s (some x) st))
theorem q_aoP (h : SI i s) (e : PX) : sAoP s e = sAo i (liE e) := by
  funext st
  dsimp only [sAoP, sAo, liE]
  rw [opK_bd]
  congr 1
  funext x
  rw [h.eq]
  rfl
def sAoK (s : SS) (m : ME) : MS := fun st => bindK (m st) fun x => .ok (.nx (s (some x.1) x.2))
theorem q_aoK (h : SI i s) (m : ME) : sAoK s m = sAo i m := by
  funext st
  unfold sAoK sAo
  rw [bindK_eq]
  congr 1
  funext x
  rw [h.eq]
def forK (A : AT) (b : MS) (ds : List D) : MS := List.rec (motive := fun _ => AS → R Fl) (fun st => .ok (.nx st))
  (fun d _ ih st => opK (A d st) fun st1 => bindK (b st1) fun f => flK f ih (fun d => .ok (.rt d)) (fun s => .ok (.nx s)) ih) ds
theorem forK_eq (h : PtI p A) (b : MS) : ∀ (ds : List D) (st : AS), forK A b ds st = forL p b ds st
  | [], _ => rfl
  | d :: r, st => by
    show opK (A d st) _ = (match asg p d st with | some st1 => _ | none => _)
    rw [h.eq]
    cases asg p d st with
    | none => rfl
    | some st1 =>
      show bindK (b st1) _ = R.bind (b st1) _
      rw [bindK_eq]
      congr 1
      funext f
      cases f with
      | nx s => exact forK_eq h b r s
      | ct s => exact forK_eq h b r s
      | _ => rfl
def sForP (s : PL) (A : AT) (b : MS) : MS := fun st => opK (s st) fun ds => forK A b ds st
theorem q_forP (h : PtI p A) (s : PL) (b : MS) : sForP s A b = sFor (liI s) p b := by
  funext st
  dsimp only [sForP, sFor, liI]
  rw [opK_bd]
  congr 1
  funext x
  exact forK_eq h b x st
def sForK (s : MI) (A : AT) (b : MS) : MS := fun st => bindK (s st) fun x => forK A b x.1 x.2
theorem q_forK (h : PtI p A) (s : MI) (b : MS) : sForK s A b = sFor s p b := by
  funext st
  unfold sForK sFor
  rw [bindK_eq]
  congr 1
  funext x
  exact forK_eq h b x.1 x.2
def whK (t : MT) (b : MS) (n : Nat) : MS := Nat.rec (motive := fun _ => AS → R Fl) (fun _ => .bad)
  (fun _ ih st => bindK (t st) fun p => bK p.1 (bindK (b p.2) fun f => flK f ih (fun d => .ok (.rt d)) (fun s => .ok (.nx s)) ih) (.ok (.nx p.2))) n
theorem q_wh (t : MT) (b : MS) : ∀ n, whK t b n = sWh n t b
  | 0 => rfl
  | n + 1 => by
    funext st
    show bindK (t st) _ = R.bind (t st) _
    rw [bindK_eq]
    congr 1
    funext p
    rw [bK_m]
    congr 1
    funext _
    show bindK (b p.2) _ = R.bind (b p.2) _
    rw [bindK_eq]
    congr 1
    funext f
    cases f with
    | nx s => exact congrFun (q_wh t b n) s
    | ct s => exact congrFun (q_wh t b n) s
    | _ => rfl
def apK (xs ys : List D) : List D := List.rec (motive := fun _ => List D) ys (fun x _ ih => x :: ih) xs
theorem apK_eq : ∀ xs ys : List D, apK xs ys = xs ++ ys
  | [], _ => rfl
  | x :: xs, ys => congrArg (x :: ·) (apK_eq xs ys)
def lsK (d : D) (f : List D → R Fl) : R Fl := D.casesOn d .bad (fun _ => .bad) (fun _ => .bad) (fun _ => .bad) (fun _ => .bad) f .bad .bad
def sAppP (g : GS) (s : SS) (e : PX) : MS := fun st => opK (g st) fun l => opK (e st) fun x => lsK l fun xs => bK (nHK x) (bK (lenK xs 0) (.ok (.nx (s (some (.lst (apK xs [x]))) st))) .bad) .bad
theorem q_appP (hg : GI i g) (hs : SI i s) (e : PX) : sAppP g s e = sApp i (liE e) := by
  funext st
  dsimp only [sAppP, sApp, liE]
  rw [hg.eq]
  cases hl : getS st i with
  | none => rfl
  | some l =>
    show opK (e st) _ = R.bind (opK (e st) _) _
    rw [opK_bd]
    congr 1
    funext x
    show _ = (match getS st i with | some (.lst xs) => _ | _ => R.bad)
    rw [hl]
    cases l with
    | lst xs =>
      show bK (nHK x) (bK (lenK xs 0) (R.ok (Fl.nx (s (some (.lst (apK xs [x]))) st))) .bad) .bad = _
      rw [hs.eq, apK_eq, lenK_eq, nHK_eq, Nat.zero_add]
      show _ = (match isH x || !(lenOk xs.length) with | true => R.bad | false => _)
      cases isH x <;> cases lenOk xs.length <;> rfl
    | _ => rfl
def sAppK (g : GS) (s : SS) (m : ME) : MS := fun st => opK (g st) fun _ => bindK (m st) fun p => opK (g p.2) fun l => lsK l fun xs => bK (nHK p.1) (bK (lenK xs 0) (.ok (.nx (s (some (.lst (apK xs [p.1]))) p.2))) .bad) .bad
theorem q_appK (hg : GI i g) (hs : SI i s) (m : ME) : sAppK g s m = sApp i m := by
  funext st
  dsimp only [sAppK, sApp]
  rw [hg.eq]
  cases getS st i with
  | none => rfl
  | some l0 =>
    show bindK (m st) _ = R.bind (m st) _
    rw [bindK_eq]
    congr 1
    funext p
    rw [hg.eq]
    cases getS p.2 i with
    | none => rfl
    | some l =>
      cases l with
      | lst xs =>
        show bK (nHK p.1) (bK (lenK xs 0) (R.ok (Fl.nx (s (some (.lst (apK xs [p.1]))) p.2))) .bad) .bad = _
        rw [hs.eq, apK_eq, lenK_eq, nHK_eq, Nat.zero_add]
        show _ = (match isH p.1 || !(lenOk xs.length) with | true => R.bad | false => _)
        cases isH p.1 <;> cases lenOk xs.length <;> rfl
      | _ => rfl
def len2 (xs ys : List D) : Bool := lenOk (xs.length + ys.length)
def len2K (xs ys : List D) : Bool := List.rec (motive := fun _ => Nat → Bool) (fun n => lenK ys n) (fun _ _ ih n => ih (Nat.succ n)) xs 0
theorem len2K_eq (xs ys : List D) : len2K xs ys = lenOk (xs.length + ys.length) := by
  have : ∀ (xs : List D) (n : Nat), (List.rec (motive := fun _ => Nat → Bool) (fun n => lenK ys n) (fun _ _ ih n => ih (Nat.succ n)) xs n : Bool) = lenOk (n + (xs.length + ys.length)) := by
    intro xs
    induction xs with
    | nil => intro n; show lenK ys n = _; rw [lenK_eq, List.length_nil, Nat.zero_add]
    | cons x r ih =>
      intro n
      show (List.rec (motive := fun _ => Nat → Bool) (fun n => lenK ys n) (fun _ _ ih n => ih (Nat.succ n)) r (n + 1) : Bool) = _
      rw [ih, List.length_cons]
      congr 1
      omega
  have h := this xs 0
  rw [Nat.zero_add] at h
  exact h
def sExtK (g : GS) (s : SS) (m : ME) : MS := fun st => opK (g st) fun _ => bindK (m st) fun p => opK (g p.2) fun l => lsK l fun xs => lsK p.1 fun ys => bK (len2K xs ys) (.ok (.nx (s (some (.lst (apK xs ys))) p.2))) .bad
theorem q_extK (hg : GI i g) (hs : SI i s) (m : ME) : sExtK g s m = sExt i m := by
  funext st
  dsimp only [sExtK, sExt]
  rw [hg.eq]
  cases getS st i with
  | none => rfl
  | some l0 =>
    show bindK (m st) _ = R.bind (m st) _
    rw [bindK_eq]
    congr 1
    funext p
    obtain ⟨d, sp⟩ := p
    rw [hg.eq]
    show opK (getS sp i) _ = (match getS sp i with | some (.lst xs) => (match d with | .lst ys => _ | _ => _) | _ => _)
    cases getS sp i with
    | none => rfl
    | some l =>
      cases l with
      | lst xs =>
        cases d with
        | lst ys =>
          show bK (len2K xs ys) _ _ = (match lenOk (xs.length + ys.length) with | true => _ | false => _)
          rw [len2K_eq, hs.eq, apK_eq]
          cases lenOk (xs.length + ys.length) <;> rfl
        | _ => rfl
      | _ => rfl
def sExtP (g : GS) (s : SS) (e : PX) : MS := fun st => opK (g st) fun l => opK (e st) fun d => lsK l fun xs => lsK d fun ys => bK (len2K xs ys) (.ok (.nx (s (some (.lst (apK xs ys))) st))) .bad
theorem q_extP (hg : GI i g) (hs : SI i s) (e : PX) : sExtP g s e = sExt i (liE e) := by
  rw [← q_extK hg hs]
  funext st
  dsimp only [sExtP, sExtK, liE]
  cases hl : g st with
  | none => rfl
  | some l =>
    show opK (e st) _ = bindK (opK (e st) _) _
    rw [bindK_eq, opK_bd]
    congr 1
    funext d
    show _ = opK (g st) _
    rw [hl]
    rfl
def sDrpK (m : ME) : MS := fun st => bindK (m st) fun x => .ok (.nx x.2)
theorem q_drp (m : ME) : sDrpK m = sDrp m := by
  funext st
  unfold sDrpK sDrp
  rw [bindK_eq]
/-! the last one -/
def lastK (xs : List D) : Option D := List.rec (motive := fun _ => Option D) none (fun x r ih => List.rec (motive := fun _ => Option D) (some x) (fun _ _ _ => ih) r) xs
def dropK (xs : List D) : List D := List.rec (motive := fun _ => List D) [] (fun x r ih => List.rec (motive := fun _ => List D) [] (fun _ _ _ => x :: ih) r) xs
theorem lastK_eq : ∀ xs : List D, lastK xs = xs[xs.length - 1]?
  | [] => rfl
  | [x] => rfl
  | x :: y :: r => by
    show lastK (y :: r) = _
    rw [lastK_eq (y :: r)]
    simp
theorem dropK_eq : ∀ xs : List D, dropK xs = xs.dropLast
  | [] => rfl
  | [x] => rfl
  | x :: y :: r => congrArg (x :: ·) (dropK_eq (y :: r))
def leK (d : D) (f : List D → R (D × AS)) : R (D × AS) := D.casesOn d .bad (fun _ => .bad) (fun _ => .bad) (fun _ => .bad) (fun _ => .bad) f .bad .bad
def mPopK (g : GS) (s : SS) : ME := fun st => opK (g st) fun l => leK l fun xs => opK (lastK xs) fun d => .ok (d, s (some (.lst (dropK xs))) st)
theorem q_pop (hg : GI i g) (hs : SI i s) : mPopK g s = mPop i := by
  funext st
  unfold mPopK mPop
  rw [hg.eq]
  cases getS st i with
  | none => rfl
  | some l =>
    cases l with
    | lst xs =>
      show opK (lastK xs) _ = (match xs[xs.length - 1]? with | some d => _ | none => _)
      rw [lastK_eq, dropK_eq]
      cases xs[xs.length - 1]? with
      | none => rfl
      | some d =>
        show R.ok (d, s (some (.lst xs.dropLast)) st) = _
        rw [hs.eq]
    | _ => rfl
/-! numbers in place -/
def inK (d : D) (f : Int → R Fl) : R Fl := D.casesOn d .bad (fun _ => .bad) f (fun _ => .bad) (fun _ => .bad) (fun _ => .bad) .bad .bad
def sAugP (f : Int → Int → Int) (g : GS) (s : SS) (e : PX) : MS := fun st => opK (g st) fun d => inK d fun x => opK (e st) fun y => inK y fun z => fcIK (f x z) fun w => .ok (.nx (s (some (.int w)) st))
theorem q_augP (hg : GI i g) (hs : SI i s) (f : Int → Int → Int) (e : PX) : sAugP f g s e = sAug f i (liE e) := by
  funext st
  dsimp only [sAugP, sAug, liE]
  rw [hg.eq]
  cases getS st i with
  | none => rfl
  | some d =>
    cases d with
    | int x =>
      show opK (e st) _ = R.bind (opK (e st) _) _
      rw [opK_bd]
      congr 1
      funext y
      cases y with
      | int z =>
        show fcIK (f x z) (fun w => R.ok (Fl.nx (s (some (.int w)) st))) = _
        rw [fcIK_eq, hs.eq]
        rfl
      | _ => rfl
    | _ => rfl
end
end
end EV
/-! .. stores -/
namespace EV
open PySem PySem.Spec PyProof.Rows L2
noncomputable section
section
variable {i j k : Nat} {g : GS} {s s2 s3 : SS} {p : Pat} {A : AT}
def ixK (n : Nat) (k : Int) : Option Nat := Int.rec (motive := fun _ => Option Nat) (fun m => bK (Nat.ble (Nat.succ m) n) (some m) none) (fun m => bK (Nat.ble (Nat.succ m) n) (some (n - Nat.succ m)) none) k
theorem ixK_eq (n : Nat) (k : Int) : ixK n k = ixN n k := by
  cases k with
  | ofNat m =>
    show bK (Nat.ble (m + 1) n) (some m) none = ixN n (m : Int)
    unfold ixN
    rw [if_pos (Int.natCast_nonneg m)]
    cases h : Nat.ble (m + 1) n with
    | true =>
      have := Nat.le_of_ble_eq_true h
      rw [if_pos (by omega)]
      simp [bK_t]
    | false =>
      have : ¬ (m + 1 ≤ n) := fun z => by rw [Nat.ble_eq_true_of_le z] at h; cases h
      rw [if_neg (by omega)]
      rfl
  | negSucc m =>
    show bK (Nat.ble (m + 1) n) (some (n - (m + 1))) none = ixN n (Int.negSucc m)
    unfold ixN
    rw [if_neg (by omega)]
    cases h : Nat.ble (m + 1) n with
    | true =>
      have := Nat.le_of_ble_eq_true h
      rw [if_pos (by omega)]
      show some _ = some _
      congr 1
      omega
    | false =>
      have : ¬ (m + 1 ≤ n) := fun z => by rw [Nat.ble_eq_true_of_le z] at h; cases h
      rw [if_neg (by omega)]
      rfl
def cntK (xs : List D) : Nat → Nat := List.rec (motive := fun _ => Nat → Nat) (fun n => n) (fun _ _ ih n => fcNK (Nat.succ n) ih) xs
theorem cntK_eq : ∀ (xs : List D) (n : Nat), cntK xs n = n + xs.length
  | [], _ => rfl
  | x :: r, n => by
    show fcNK (n + 1) (cntK r) = _
    rw [fcNK_eq, cntK_eq r, List.length_cons]
    omega
def nthK (xs : List D) : Nat → Option D := List.rec (motive := fun _ => Nat → Option D) (fun _ => none) (fun x _ ih n => Nat.rec (motive := fun _ => Option D) (some x) (fun m _ => ih m) n) xs
theorem nthK_eq : ∀ (xs : List D) (n : Nat), nthK xs n = xs[n]?
  | [], _ => by simp; rfl
  | x :: r, 0 => rfl
  | x :: r, n + 1 => by
    show nthK r n = _
    rw [nthK_eq r]
    simp
/-- with one place set, handed on with its spine written out -/
def putK {α : Type} (v : D) (xs : List D) : Nat → (List D → α) → α := List.rec (motive := fun _ => Nat → (List D → α) → α) (fun _ k => k []) (fun x r ih n k => Nat.rec (motive := fun _ => α) (k (v :: r)) (fun m _ => ih m fun r => k (x :: r)) n) xs
theorem putK_eq {α : Type} (v : D) : ∀ (xs : List D) (n : Nat) (k : List D → α), putK v xs n k = k (xs.set n v)
  | [], _, _ => rfl
  | x :: r, 0, _ => rfl
  | x :: r, n + 1, k => by
    show putK v r n (fun r => k (x :: r)) = _
    rw [putK_eq v r]
    rfl
def apC {α : Type} (xs ys : List D) : (List D → α) → α := List.rec (motive := fun _ => (List D → α) → α) (fun k => k ys) (fun x _ ih k => ih fun r => k (x :: r)) xs
theorem apC_eq {α : Type} : ∀ (xs ys : List D) (k : List D → α), apC xs ys k = k (xs ++ ys)
  | [], _, _ => rfl
  | x :: r, ys, k => by
    show apC r ys (fun r => k (x :: r)) = _
    rw [apC_eq r]
    rfl
def sAugSP (f : Int → Int → Int) (g : GS) (s : SS) (ek ev : PX) : MS := fun st => opK (g st) fun l => opK (ek st) fun y => lsK l fun ds => inK y fun k => opK (ixK (cntK ds 0) k) fun j => opK (nthK ds j) fun d => inK d fun x => opK (ev st) fun z => inK z fun w =>
  fcIK (f x w) fun v => putK (.int v) ds j fun es => .ok (.nx (s (some (.lst es)) st))
theorem q_augSP (hg : GI i g) (hs : SI i s) (f : Int → Int → Int) (ek ev : PX) : sAugSP f g s ek ev = sAugS f i (liE ek) (liE ev) := by
  funext st
  dsimp only [sAugSP, sAugS, liE]
  rw [hg.eq]
  cases hl : getS st i with
  | none => rfl
  | some l =>
    show opK (ek st) _ = R.bind (opK (ek st) _) _
    rw [opK_bd]
    congr 1
    funext y
    show _ = (match getS st i with | some (.lst ds) => (match y with | .int k => _ | _ => _) | _ => R.bad)
    rw [hl]
    cases l with
    | lst ds =>
      cases y with
      | int k =>
        show opK (ixK (cntK ds 0) k) _ = (match atI ds k with | some (.int x) => _ | _ => R.bad)
        rw [ixK_eq, cntK_eq, Nat.zero_add]
        unfold atI
        cases hi : ixN ds.length k with
        | none => rfl
        | some j =>
          show opK (nthK ds j) _ = (match ds[j]? with | some (.int x) => _ | _ => R.bad)
          rw [nthK_eq]
          cases ds[j]? with
          | none => rfl
          | some d =>
            cases d with
            | int x =>
              show opK (ev st) _ = R.bind (opK (ev st) _) _
              rw [opK_bd]
              congr 1
              funext z
              show _ = (match getS st i with | some (.lst es) => (match z with | .int w => _ | _ => _) | _ => R.bad)
              rw [hl]
              cases z with
              | int w =>
                show fcIK (f x w) (fun v => putK (D.int v) ds j fun es => R.ok (Fl.nx (s (some (D.lst es)) st))) = (match ixN ds.length k with | some j => R.ok (Fl.nx (st.set i (some (.lst (ds.set j (.int (f x w))))))) | none => _)
                rw [fcIK_eq, putK_eq, hs.eq, hi]
              | _ => rfl
            | _ => rfl
      | _ => rfl
    | _ => rfl
/-- list[k] = v -/
def sSetP (g : GS) (s : SS) (ek ev : PX) : MS := fun st => opK (ev st) fun x => opK (g st) fun l => opK (ek st) fun y => lsK l fun ds => inK y fun k => opK (ixK (cntK ds 0) k) fun j => bK (nHK x) (putK x ds j fun es => .ok (.nx (s (some (.lst es)) st))) .bad
theorem q_setP (hg : GI i g) (hs : SI i s) (ek ev : PX) : sSetP g s ek ev = sSet i (liE ek) (liE ev) := by
  funext st
  dsimp only [sSetP, sSet, liE]
  rw [opK_bd]
  congr 1
  funext x
  show opK (g st) _ = (match getS st i with | none => R.bad | some _ => _)
  rw [hg.eq]
  cases hl : getS st i with
  | none => rfl
  | some l =>
    show opK (ek st) _ = R.bind (opK (ek st) _) _
    rw [opK_bd]
    congr 1
    funext y
    show _ = (match getS st i with | some (.lst ds) => (match y with | .int k => _ | _ => _) | _ => R.bad)
    rw [hl]
    cases l with
    | lst ds =>
      cases y with
      | int k =>
        show opK (ixK (cntK ds 0) k) _ = (match ixN ds.length k with | some j => _ | none => _)
        rw [ixK_eq, cntK_eq, Nat.zero_add]
        cases ixN ds.length k with
        | none => rfl
        | some j =>
          show bK (nHK x) (putK x ds j _) _ = (match isH x with | true => _ | false => _)
          rw [putK_eq, nHK_eq, hs.eq]
          cases isH x <;> rfl
      | _ => rfl
    | _ => rfl
def sPar2K (s s2 : SS) (a b : ME) : MS := fun st => bindK (a st) fun x => bindK (b x.2) fun y => .ok (.nx (s2 (some y.1) (s (some x.1) y.2)))
theorem q_parO (h : SI i s) (h2 : SI j s2) (a b : ME) : sPar2K s s2 a b = sParO i j a b := by
  funext st
  unfold sPar2K sParO
  rw [bindK_eq]
  congr 1
  funext x
  rw [bindK_eq]
  congr 1
  funext y
  rw [h.eq, h2.eq]
theorem q_parSO (h : SI i s) (h2 : SI j s2) (a b : ME) : sPar2K s s2 a b = sParSO i j a b := by
  funext st
  unfold sPar2K sParSO
  rw [bindK_eq]
  congr 1
  funext x
  rw [bindK_eq]
  congr 1
  funext y
  rw [h.eq, h2.eq]
theorem q_par2 (h : SI i s) (h2 : SI j s2) (a b : ME) : sPar2K s s2 a b = sPar [i, j] (lCons a (lCons b lNil)) := by
  funext st
  unfold sPar2K sPar lCons lNil
  rw [bindK_eq, bd_assoc]
  congr 1
  funext x
  rw [bindK_eq, bd_assoc, bd_assoc]
  congr 1
  funext y
  rw [h.eq, h2.eq]
  rfl
def sPar3K (s s2 s3 : SS) (a b c : ME) : MS := fun st => bindK (a st) fun x => bindK (b x.2) fun y => bindK (c y.2) fun z => .ok (.nx (s3 (some z.1) (s2 (some y.1) (s (some x.1) z.2))))
theorem q_parOOS (h : SI i s) (h2 : SI j s2) (h3 : SI k s3) (a b c : ME) : sPar3K s s2 s3 a b c = sParOOS i j k a b c := by
  funext st
  unfold sPar3K sParOOS
  rw [bindK_eq]
  congr 1
  funext x
  rw [bindK_eq]
  congr 1
  funext y
  rw [bindK_eq]
  congr 1
  funext z
  rw [h.eq, h2.eq, h3.eq]
theorem q_par3 (h : SI i s) (h2 : SI j s2) (h3 : SI k s3) (a b c : ME) : sPar3K s s2 s3 a b c = sPar [i, j, k] (lCons a (lCons b (lCons c lNil))) := by
  funext st
  unfold sPar3K sPar lCons lNil
  rw [bindK_eq, bd_assoc]
  congr 1
  funext x
  rw [bindK_eq, bd_assoc, bd_assoc]
  congr 1
  funext y
  rw [bindK_eq, bd_assoc, bd_assoc]
  congr 1
  funext z
  rw [h.eq, h2.eq, h3.eq]
  rfl
/-! a list's end with its spine written out -/
def sAppC (g : GS) (s : SS) (e : PX) : MS := fun st => opK (g st) fun l => opK (e st) fun x => lsK l fun xs => bK (nHK x) (bK (lenK xs 0) (apC xs [x] fun ys => .ok (.nx (s (some (.lst ys)) st))) .bad) .bad
theorem q_appC (hg : GI i g) (hs : SI i s) (e : PX) : sAppC g s e = sApp i (liE e) := by
  rw [← q_appP hg hs]
  funext st
  unfold sAppC sAppP
  congr 1
  funext l
  congr 1
  funext x
  congr 1
  funext xs
  rw [apC_eq, apK_eq]
def sAppKC (g : GS) (s : SS) (m : ME) : MS := fun st => opK (g st) fun _ => bindK (m st) fun p => opK (g p.2) fun l => lsK l fun xs => bK (nHK p.1) (bK (lenK xs 0) (apC xs [p.1] fun ys => .ok (.nx (s (some (.lst ys)) p.2))) .bad) .bad
theorem q_appKC (hg : GI i g) (hs : SI i s) (m : ME) : sAppKC g s m = sApp i m := by
  rw [← q_appK hg hs]
  funext st
  unfold sAppKC sAppK
  congr 1
  funext _
  congr 1
  funext p
  congr 1
  funext l
  congr 1
  funext xs
  rw [apC_eq, apK_eq]
def sExtKC (g : GS) (s : SS) (m : ME) : MS := fun st => opK (g st) fun _ => bindK (m st) fun p => opK (g p.2) fun l => lsK l fun xs => lsK p.1 fun ys => bK (len2K xs ys) (apC xs ys fun zs => .ok (.nx (s (some (.lst zs)) p.2))) .bad
theorem q_extKC (hg : GI i g) (hs : SI i s) (m : ME) : sExtKC g s m = sExt i m := by
  rw [← q_extK hg hs]
  funext st
  unfold sExtKC sExtK
  congr 1
  funext _
  congr 1
  funext p
  congr 1
  funext l
  congr 1
  funext xs
  congr 1
  funext ys
  rw [apC_eq, apK_eq]
theorem q_fgt {ks : List Nat} {m n : MS} (h : m = n) : sFgt ks m = sFgt ks n := by rw [h]
end
/-! the slots' words -/
def g0 : GS := hdK
def s0 : SS := s0K
theorem G0 : GI 0 g0 := GI.zero
theorem S0 : SI 0 s0 := SI.zero
def g1 : GS := tlK g0
def s1 : SS := stK s0
theorem G1 : GI 1 g1 := G0.succ
theorem S1 : SI 1 s1 := S0.succ
def g2 : GS := tlK g1
def s2 : SS := stK s1
theorem G2 : GI 2 g2 := G1.succ
theorem S2 : SI 2 s2 := S1.succ
def g3 : GS := tlK g2
def s3 : SS := stK s2
theorem G3 : GI 3 g3 := G2.succ
theorem S3 : SI 3 s3 := S2.succ
def g4 : GS := tlK g3
def s4 : SS := stK s3
theorem G4 : GI 4 g4 := G3.succ
theorem S4 : SI 4 s4 := S3.succ
def g5 : GS := tlK g4
def s5 : SS := stK s4
theorem G5 : GI 5 g5 := G4.succ
theorem S5 : SI 5 s5 := S4.succ
def g6 : GS := tlK g5
def s6 : SS := stK s5
theorem G6 : GI 6 g6 := G5.succ
theorem S6 : SI 6 s6 := S5.succ
def g7 : GS := tlK g6
def s7 : SS := stK s6
theorem G7 : GI 7 g7 := G6.succ
theorem S7 : SI 7 s7 := S6.succ
def g8 : GS := tlK g7
def s8 : SS := stK s7
theorem G8 : GI 8 g8 := G7.succ
theorem S8 : SI 8 s8 := S7.succ
def g9 : GS := tlK g8
def s9 : SS := stK s8
theorem G9 : GI 9 g9 := G8.succ
theorem S9 : SI 9 s9 := S8.succ
def g10 : GS := tlK g9
def s10 : SS := stK s9
theorem G10 : GI 10 g10 := G9.succ
theorem S10 : SI 10 s10 := S9.succ
def g11 : GS := tlK g10
def s11 : SS := stK s10
theorem G11 : GI 11 g11 := G10.succ
theorem S11 : SI 11 s11 := S10.succ
def g12 : GS := tlK g11
def s12 : SS := stK s11
theorem G12 : GI 12 g12 := G11.succ
theorem S12 : SI 12 s12 := S11.succ
def g13 : GS := tlK g12
def s13 : SS := stK s12
theorem G13 : GI 13 g13 := G12.succ
theorem S13 : SI 13 s13 := S12.succ
def g14 : GS := tlK g13
def s14 : SS := stK s13
theorem G14 : GI 14 g14 := G13.succ
theorem S14 : SI 14 s14 := S13.succ
def g15 : GS := tlK g14
def s15 : SS := stK s14
theorem G15 : GI 15 g15 := G14.succ
theorem S15 : SI 15 s15 := S14.succ
def g16 : GS := tlK g15
def s16 : SS := stK s15
theorem G16 : GI 16 g16 := G15.succ
theorem S16 : SI 16 s16 := S15.succ
def g17 : GS := tlK g16
def s17 : SS := stK s16
theorem G17 : GI 17 g17 := G16.succ
theorem S17 : SI 17 s17 := S16.succ
def g18 : GS := tlK g17
def s18 : SS := stK s17
theorem G18 : GI 18 g18 := G17.succ
theorem S18 : SI 18 s18 := S17.succ
def g19 : GS := tlK g18
def s19 : SS := stK s18
theorem G19 : GI 19 g19 := G18.succ
theorem S19 : SI 19 s19 := S18.succ
def g20 : GS := tlK g19
def s20 : SS := stK s19
theorem G20 : GI 20 g20 := G19.succ
theorem S20 : SI 20 s20 := S19.succ
def g21 : GS := tlK g20
def s21 : SS := stK s20
theorem G21 : GI 21 g21 := G20.succ
theorem S21 : SI 21 s21 := S20.succ
def g22 : GS := tlK g21
def s22 : SS := stK s21
theorem G22 : GI 22 g22 := G21.succ
theorem S22 : SI 22 s22 := S21.succ
def g23 : GS := tlK g22
def s23 : SS := stK s22
theorem G23 : GI 23 g23 := G22.succ
theorem S23 : SI 23 s23 := S22.succ
def g24 : GS := tlK g23
def s24 : SS := stK s23
theorem G24 : GI 24 g24 := G23.succ
theorem S24 : SI 24 s24 := S23.succ
def g25 : GS := tlK g24
def s25 : SS := stK s24
theorem G25 : GI 25 g25 := G24.succ
theorem S25 : SI 25 s25 := S24.succ
def g26 : GS := tlK g25
def s26 : SS := stK s25
theorem G26 : GI 26 g26 := G25.succ
theorem S26 : SI 26 s26 := S25.succ
def g27 : GS := tlK g26
def s27 : SS := stK s26
theorem G27 : GI 27 g27 := G26.succ
theorem S27 : SI 27 s27 := S26.succ
def g28 : GS := tlK g27
def s28 : SS := stK s27
theorem G28 : GI 28 g28 := G27.succ
theorem S28 : SI 28 s28 := S27.succ
def g29 : GS := tlK g28
def s29 : SS := stK s28
theorem G29 : GI 29 g29 := G28.succ
theorem S29 : SI 29 s29 := S28.succ
def g30 : GS := tlK g29
def s30 : SS := stK s29
theorem G30 : GI 30 g30 := G29.succ
theorem S30 : SI 30 s30 := S29.succ
def g31 : GS := tlK g30
def s31 : SS := stK s30
theorem G31 : GI 31 g31 := G30.succ
theorem S31 : SI 31 s31 := S30.succ
def g32 : GS := tlK g31
def s32 : SS := stK s31
theorem G32 : GI 32 g32 := G31.succ
theorem S32 : SI 32 s32 := S31.succ
def g33 : GS := tlK g32
def s33 : SS := stK s32
theorem G33 : GI 33 g33 := G32.succ
theorem S33 : SI 33 s33 := S32.succ
def g34 : GS := tlK g33
def s34 : SS := stK s33
theorem G34 : GI 34 g34 := G33.succ
theorem S34 : SI 34 s34 := S33.succ
def g35 : GS := tlK g34
def s35 : SS := stK s34
theorem G35 : GI 35 g35 := G34.succ
theorem S35 : SI 35 s35 := S34.succ
def g36 : GS := tlK g35
def s36 : SS := stK s35
theorem G36 : GI 36 g36 := G35.succ
theorem S36 : SI 36 s36 := S35.succ
def g37 : GS := tlK g36
def s37 : SS := stK s36
theorem G37 : GI 37 g37 := G36.succ
theorem S37 : SI 37 s37 := S36.succ
def g38 : GS := tlK g37
def s38 : SS := stK s37
theorem G38 : GI 38 g38 := G37.succ
theorem S38 : SI 38 s38 := S37.succ
def g39 : GS := tlK g38
def s39 : SS := stK s38
theorem G39 : GI 39 g39 := G38.succ
theorem S39 : SI 39 s39 := S38.succ
end
end EV
/-! .. a def's run -/
namespace EV
open PySem PySem.Spec PyProof.Rows L2
noncomputable section
def repK (n : Nat) : AS := Nat.rec (motive := fun _ => AS) [] (fun _ ih => none :: ih) n
def initK (ds : List D) : Nat → AS := List.rec (motive := fun _ => Nat → AS) (fun n => repK n) (fun x _ ih n => some x :: ih (n - 1)) ds
theorem repK_eq : ∀ n, repK n = List.replicate n none
  | 0 => rfl
  | n + 1 => congrArg (none :: ·) (repK_eq n)
theorem initK_eq : ∀ (ds : List D) (n : Nat), initK ds n = init n ds
  | [], n => by
    show repK n = _
    rw [repK_eq]
    rfl
  | x :: r, n => by
    show some x :: initK r (n - 1) = _
    rw [initK_eq r]
    unfold init
    rw [List.map_cons, List.length_cons, List.cons_append]
    congr 3
    omega
def retK (ro : Bool) (f : Fl) : R D := Fl.casesOn f (fun _ => bK ro .bad (.ok .non)) (fun d => .ok d) (fun _ => .bad) (fun _ => .bad)
def runK (ro : Bool) (N : Nat) (m : MS) (ds : List D) : R D := bindK (m (initK ds N)) (retK ro)
theorem runK_eq (ro : Bool) (N : Nat) (m : MS) (ds : List D) : runK ro N m ds = (m (init N ds)).bind (retOf ro) := by
  unfold runK
  rw [bindK_eq, initK_eq]
  congr 1
  funext f
  cases f with
  | nx st => cases ro <;> rfl
  | _ => rfl
end
end EV
/-! .. operators -/
namespace EV
open PySem PySem.Spec PyProof.Rows L2
noncomputable section
/-! ints -/
def iiK {α : Type} (i j : Int) (pp pn np nn : Nat → Nat → α) : α := Int.rec (motive := fun _ => α) (fun m => Int.rec (motive := fun _ => α) (fun n => pp m n) (fun n => pn m n) j) (fun m => Int.rec (motive := fun _ => α) (fun n => np m n) (fun n => nn m n) j) i
def ltIK (i j : Int) : Bool := iiK i j (fun m n => Nat.ble (Nat.succ m) n) (fun _ _ => false) (fun _ _ => true) (fun m n => Nat.ble (Nat.succ n) m)
def eqIK (i j : Int) : Bool := iiK i j (fun m n => Nat.beq m n) (fun _ _ => false) (fun _ _ => false) (fun m n => Nat.beq m n)
theorem ltIK_eq (i j : Int) : ltIK i j = decide (i < j) := by
  cases i with
  | ofNat m => cases j with
    | ofNat n =>
      show Nat.ble (m + 1) n = _
      by_cases h : m + 1 ≤ n
      · rw [Nat.ble_eq_true_of_le h, decide_eq_true (by simp only [Int.ofNat_eq_natCast]; omega)]
      · rw [decide_eq_false (by simp only [Int.ofNat_eq_natCast]; omega)]
        cases e : Nat.ble (m + 1) n with
        | true => exact absurd (Nat.le_of_ble_eq_true e) h
        | false => rfl
    | negSucc n => exact (decide_eq_false (by simp only [Int.ofNat_eq_natCast]; omega)).symm
  | negSucc m => cases j with
    | ofNat n => exact (decide_eq_true (by simp only [Int.ofNat_eq_natCast]; omega)).symm
    | negSucc n =>
      show Nat.ble (n + 1) m = _
      by_cases h : n + 1 ≤ m
      · rw [Nat.ble_eq_true_of_le h, decide_eq_true (by omega)]
      · rw [decide_eq_false (by omega)]
        cases e : Nat.ble (n + 1) m with
        | true => exact absurd (Nat.le_of_ble_eq_true e) h
        | false => rfl
theorem eqIK_eq (i j : Int) : eqIK i j = decide (i = j) := by
  have nb : ∀ m n : Nat, Nat.beq m n = decide (m = n) := fun m n => by
    cases e : Nat.beq m n with
    | true => exact (decide_eq_true (Nat.eq_of_beq_eq_true e)).symm
    | false => exact (decide_eq_false fun z => by rw [z, Nat.beq_refl] at e; cases e).symm
  cases i with
  | ofNat m => cases j with
    | ofNat n =>
      show Nat.beq m n = _
      rw [nb]
      exact decide_eq_decide.mpr (by simp only [Int.ofNat_eq_natCast]; omega)
    | negSucc n => rfl
  | negSucc m => cases j with
    | ofNat n => rfl
    | negSucc n =>
      show Nat.beq m n = _
      rw [nb]
      congr 1
      simp
def addIK (i j : Int) : Int := iiK i j (fun m n => .ofNat (m + n)) (fun _ _ => i + j) (fun _ _ => i + j) (fun _ _ => i + j)
theorem addIK_eq (i j : Int) : addIK i j = i + j := by cases i <;> cases j <;> rfl
def subIK (i j : Int) : Int := iiK i j (fun m n => bK (Nat.ble n m) (.ofNat (m - n)) (i - j)) (fun _ _ => i - j) (fun _ _ => i - j) (fun _ _ => i - j)
theorem subIK_eq (i j : Int) : subIK i j = i - j := by
  cases i with
  | ofNat m => cases j with
    | ofNat n =>
      show bK (Nat.ble n m) (Int.ofNat (m - n)) _ = _
      cases e : Nat.ble n m with
      | true =>
        have := Nat.le_of_ble_eq_true e
        show Int.ofNat (m - n) = _
        simp only [Int.ofNat_eq_natCast]
        omega
      | false => rfl
    | negSucc n => rfl
  | negSucc m => cases j <;> rfl
def mulIK (i j : Int) : Int := iiK i j (fun m n => .ofNat (m * n)) (fun _ _ => i * j) (fun _ _ => i * j) (fun _ _ => i * j)
theorem mulIK_eq (i j : Int) : mulIK i j = i * j := by cases i <;> cases j <;> rfl
def modIK (i j : Int) : Int := iiK i j (fun m n => .ofNat (m % n)) (fun _ _ => i.fmod j) (fun _ _ => i.fmod j) (fun _ _ => i.fmod j)
theorem modIK_eq (i j : Int) : modIK i j = i.fmod j := by
  cases i with
  | ofNat m => cases j with
    | ofNat n =>
      show Int.ofNat (m % n) = _
      cases m <;> rfl
    | negSucc n => rfl
  | negSucc m => cases j <;> rfl
def divIK (i j : Int) : Int := iiK i j (fun m n => .ofNat (m / n)) (fun _ _ => i.fdiv j) (fun _ _ => i.fdiv j) (fun _ _ => i.fdiv j)
theorem divIK_eq (i j : Int) : divIK i j = i.fdiv j := by
  cases i with
  | ofNat m => cases j with
    | ofNat n =>
      show Int.ofNat (m / n) = _
      cases m with
      | zero => simp [Int.fdiv]
      | succ m => rfl
    | negSucc n => rfl
  | negSucc m => cases j <;> rfl
/-! two ints -/
def d2K {α : Type} (d e : D) (f : Int → Int → α) (o : α) : α := D.casesOn d o (fun _ => o) (fun i => D.casesOn e o (fun _ => o) (fun j => f i j) (fun _ => o) (fun _ => o) (fun _ => o) o o) (fun _ => o) (fun _ => o) (fun _ => o) o o
theorem d2K_I (d e : D) (f : Int → Int → Option D) : d2K d e f none = oI f d e := by cases d <;> cases e <;> rfl
def oAddK (d e : D) : Option D := d2K d e (fun i j => fcIK (addIK i j) fun k => some (.int k)) (oAddL d e)
theorem oAddK_eq : oAddK = oAddL := by
  funext d e
  unfold oAddK
  cases d with
  | int i => cases e with
    | int j =>
      show fcIK (addIK i j) (fun k => some (D.int k)) = _
      rw [fcIK_eq, addIK_eq]
      rfl
    | _ => rfl
  | _ => cases e <;> rfl
def oSubK (d e : D) : Option D := d2K d e (fun i j => fcIK (subIK i j) fun k => some (.int k)) none
theorem oSubK_eq : oSubK = oSub := by
  funext d e
  unfold oSubK
  rw [d2K_I]
  unfold oSub
  congr 1
  funext i j
  rw [fcIK_eq, subIK_eq]
def oMulC (c : Nat) (d e : D) : Option D := d2K d e (fun i j => iiK i j (fun m n => bK (Nat.ble m c) (fcNK (m * n) fun k => some (.int (.ofNat k))) (oMulT d e)) (fun _ _ => oMulT d e) (fun _ _ => oMulT d e) (fun _ _ => oMulT d e)) (oMulT d e)
theorem d2K_of {α : Type} {d e : D} {f : Int → Int → α} {o : α} (h : ∀ i j, d = .int i → e = .int j → f i j = o) : d2K d e f o = o := by
  cases d with
  | int i => cases e with
    | int j => exact h i j rfl rfl
    | _ => rfl
  | _ => cases e <;> rfl
theorem iiK_of {α : Type} {i j : Int} {f : Nat → Nat → α} {x : α} (h : ∀ m n : Nat, i = .ofNat m → j = .ofNat n → f m n = x) : iiK i j f (fun _ _ => x) (fun _ _ => x) (fun _ _ => x) = x := by
  cases i with
  | ofNat m => cases j with
    | ofNat n => exact h m n rfl rfl
    | negSucc n => rfl
  | negSucc m => cases j <;> rfl
theorem mul_int (i j : Int) (h : small64B i = true) : oMulT (.int i) (.int j) = some (.int (i * j)) := by
  simp only [oMulT, oMul, oI]
  rw [h, Bool.true_or, if_pos rfl]
theorem sm64' {i : Int} (h : i < 2 ^ 64) (h2 : -(2 ^ 64) < i) : small64B i = true := by
  unfold small64B
  rw [decide_eq_true h, decide_eq_true h2]
  rfl
theorem oMulC_eq {c : Nat} (hc : (c : Int) < 2 ^ 64) : oMulC c = oMulT := by
  funext d e
  unfold oMulC
  refine d2K_of fun i j hi hj => iiK_of fun m n em en => ?_
  subst hi
  subst hj
  subst em
  subst en
  rw [fcNK_eq]
  cases h : Nat.ble m c with
  | false => rw [bK_f]
  | true =>
    have := Nat.le_of_ble_eq_true h
    rw [bK_t]
    exact (mul_int (.ofNat m) (.ofNat n) (sm64' (by simp only [Int.ofNat_eq_natCast]; omega) (by simp only [Int.ofNat_eq_natCast]; omega))).symm
def oMulK : D → D → Option D := oMulC 1000000
theorem oMulK_eq : oMulK = oMulT := oMulC_eq (by decide)
def oModK (d e : D) : Option D := d2K d e (fun i j => bK (eqIK j 0) none (fcIK (modIK i j) fun k => some (.int k))) none
theorem oModK_eq : oModK = oMod := by
  funext d e
  unfold oModK
  rw [d2K_I]
  unfold oMod
  congr 1
  funext i j
  rw [fcIK_eq, modIK_eq, eqIK_eq]
  by_cases h : j = 0 <;> simp [h, bK]
def oDivK (d e : D) : Option D := d2K d e (fun i j => bK (divB j) (fcIK (divIK i j) fun k => some (.int k)) none) none
theorem oDivK_eq : oDivK = oDiv := by
  funext d e
  unfold oDivK
  rw [d2K_I]
  unfold oDiv
  congr 1
  funext i j
  rw [fcIK_eq, divIK_eq]
  cases divB j <;> rfl
def oLtK (d e : D) : Option D := d2K d e (fun i j => some (.bl (ltIK i j))) none
def oGtK (d e : D) : Option D := d2K d e (fun i j => some (.bl (ltIK j i))) none
def oLeK (d e : D) : Option D := d2K d e (fun i j => bK (ltIK j i) (some (.bl false)) (some (.bl true))) none
def oGeK (d e : D) : Option D := d2K d e (fun i j => bK (ltIK i j) (some (.bl false)) (some (.bl true))) none
theorem oLtK_eq : oLtK = oCmp (iop .lt) := by
  funext d e
  unfold oLtK oCmp
  rw [d2K_I]
  congr 1
  funext i j
  rw [ltIK_eq]
  rfl
theorem oGtK_eq : oGtK = oCmp (iop .gt) := by
  funext d e
  unfold oGtK oCmp
  rw [d2K_I]
  congr 1
  funext i j
  rw [ltIK_eq]
  rfl
theorem oLeK_eq : oLeK = oCmp (iop .le) := by
  funext d e
  unfold oLeK oCmp
  rw [d2K_I]
  congr 1
  funext i j
  rw [ltIK_eq]
  show _ = some (D.bl (decide (i ≤ j)))
  by_cases h : j < i
  · rw [decide_eq_true h, decide_eq_false (by omega)]; rfl
  · rw [decide_eq_false h, decide_eq_true (by omega)]; rfl
theorem oGeK_eq : oGeK = oCmp (iop .ge) := by
  funext d e
  unfold oGeK oCmp
  rw [d2K_I]
  congr 1
  funext i j
  rw [ltIK_eq]
  show _ = some (D.bl (decide (j ≤ i)))
  by_cases h : i < j
  · rw [decide_eq_true h, decide_eq_false (by omega)]; rfl
  · rw [decide_eq_false h, decide_eq_true (by omega)]; rfl
/-! lists of ints -/
def maxK (xs : List D) : Int → Option D := List.rec (motive := fun _ => Int → Option D) (fun m => some (.int m)) (fun x _ ih m => ooK (dIK x) fun i => bK (ltIK m i) (ih i) (ih m)) xs
def minK (xs : List D) : Int → Option D := List.rec (motive := fun _ => Int → Option D) (fun m => some (.int m)) (fun x _ ih m => ooK (dIK x) fun i => bK (ltIK i m) (ih i) (ih m)) xs
def extK (f : List D → Int → Option D) (d : D) : Option D := D.casesOn d none (fun _ => none) (fun _ => none) (fun _ => none) (fun _ => none) (fun xs => List.rec (motive := fun _ => Option D) none (fun x r _ => ooK (dIK x) fun i => f r i) xs) none none
theorem maxK_eq : ∀ (xs : List D) (m : Int), maxK xs m = (match ints? xs with | some r => some (.int (maxI m r)) | none => none)
  | [], m => rfl
  | x :: r, m => by
    show ooK (dIK x) (fun i => bK (ltIK m i) (maxK r i) (maxK r m)) = _
    cases x with
    | int i =>
      show bK (ltIK m i) (maxK r i) (maxK r m) = _
      rw [maxK_eq r, maxK_eq r, ltIK_eq]
      show _ = (match (match ints? r with | some l => some (i :: l) | none => none) with | some r => some (D.int (maxI m r)) | none => none)
      cases ints? r with
      | none => cases decide (m < i) <;> rfl
      | some l =>
        show _ = some (D.int (maxI (if m < i then i else m) l))
        by_cases h : m < i
        · rw [decide_eq_true h, if_pos h]; rfl
        · rw [decide_eq_false h, if_neg h]; rfl
    | _ => rfl
theorem minK_eq : ∀ (xs : List D) (m : Int), minK xs m = (match ints? xs with | some r => some (.int (minI m r)) | none => none)
  | [], m => rfl
  | x :: r, m => by
    show ooK (dIK x) (fun i => bK (ltIK i m) (minK r i) (minK r m)) = _
    cases x with
    | int i =>
      show bK (ltIK i m) (minK r i) (minK r m) = _
      rw [minK_eq r, minK_eq r, ltIK_eq]
      show _ = (match (match ints? r with | some l => some (i :: l) | none => none) with | some r => some (D.int (minI m r)) | none => none)
      cases ints? r with
      | none => cases decide (i < m) <;> rfl
      | some l =>
        show _ = some (D.int (minI (if i < m then i else m) l))
        by_cases h : i < m
        · rw [decide_eq_true h, if_pos h]; rfl
        · rw [decide_eq_false h, if_neg h]; rfl
    | _ => rfl
def oMaxLK : D → Option D := extK maxK
def oMinLK : D → Option D := extK minK
theorem oMaxLK_eq : oMaxLK = oMaxL := by
  funext d
  cases d with
  | lst xs =>
    cases xs with
    | nil => rfl
    | cons x r =>
      show ooK (dIK x) (fun i => maxK r i) = (match ints? (x :: r) with | some (x :: r) => some (D.int (maxI x r)) | _ => none)
      cases x with
      | int i =>
        show maxK r i = (match (match ints? r with | some l => some (i :: l) | none => none) with | some (x :: r) => some (D.int (maxI x r)) | _ => none)
        rw [maxK_eq]
        cases ints? r <;> rfl
      | _ => rfl
  | _ => rfl
theorem oMinLK_eq : oMinLK = oMinL := by
  funext d
  cases d with
  | lst xs =>
    cases xs with
    | nil => rfl
    | cons x r =>
      show ooK (dIK x) (fun i => minK r i) = (match ints? (x :: r) with | some (x :: r) => some (D.int (minI x r)) | _ => none)
      cases x with
      | int i =>
        show minK r i = (match (match ints? r with | some l => some (i :: l) | none => none) with | some (x :: r) => some (D.int (minI x r)) | _ => none)
        rw [minK_eq]
        cases ints? r <;> rfl
      | _ => rfl
  | _ => rfl
def allBK (xs : List D) : Option Bool := List.rec (motive := fun _ => Option Bool) (some true) (fun x _ ih => ooK (dBK x) fun b => ooK ih fun c => bK b (some c) (some false)) xs
def anyBK (xs : List D) : Option Bool := List.rec (motive := fun _ => Option Bool) (some false) (fun x _ ih => ooK (dBK x) fun b => ooK ih fun c => bK b (some true) (some c)) xs
theorem allBK_eq : ∀ xs : List D, allBK xs = (bls? xs).map fun l => l.all id
  | [] => rfl
  | x :: r => by
    show ooK (dBK x) (fun b => ooK (allBK r) fun c => bK b (some c) (some false)) = _
    rw [allBK_eq r]
    cases x with
    | bl b =>
      show ooK ((bls? r).map _) _ = (match bls? r with | some l => some (b :: l) | none => none).map _
      cases bls? r with
      | none => rfl
      | some l => cases b <;> rfl
    | _ => rfl
theorem anyBK_eq : ∀ xs : List D, anyBK xs = (bls? xs).map fun l => l.any id
  | [] => rfl
  | x :: r => by
    show ooK (dBK x) (fun b => ooK (anyBK r) fun c => bK b (some true) (some c)) = _
    rw [anyBK_eq r]
    cases x with
    | bl b =>
      show ooK ((bls? r).map _) _ = (match bls? r with | some l => some (b :: l) | none => none).map _
      cases bls? r with
      | none => rfl
      | some l => cases b <;> rfl
    | _ => rfl
def oAllK (d : D) : Option D := D.casesOn d none (fun _ => none) (fun _ => none) (fun _ => none) (fun _ => none) (fun xs => ooK (allBK xs) fun b => some (.bl b)) none none
def oAnyK (d : D) : Option D := D.casesOn d none (fun _ => none) (fun _ => none) (fun _ => none) (fun _ => none) (fun xs => ooK (anyBK xs) fun b => some (.bl b)) none none
theorem oAllK_eq : oAllK = oAll := by
  funext d
  cases d with
  | lst xs =>
    show ooK (allBK xs) _ = (bls? xs).map _
    rw [allBK_eq]
    cases bls? xs <;> rfl
  | _ => rfl
theorem oAnyK_eq : oAnyK = oAny := by
  funext d
  cases d with
  | lst xs =>
    show ooK (anyBK xs) _ = (bls? xs).map _
    rw [anyBK_eq]
    cases bls? xs <;> rfl
  | _ => rfl
def sumK (xs : List D) : Option Int := List.rec (motive := fun _ => Option Int) (some 0) (fun x _ ih => ooK (dIK x) fun i => ooK ih fun s => fcIK (addIK i s) some) xs
theorem sumK_eq : ∀ xs : List D, sumK xs = (ints? xs).map sumI
  | [] => rfl
  | x :: r => by
    show ooK (dIK x) (fun i => ooK (sumK r) fun s => fcIK (addIK i s) some) = _
    rw [sumK_eq r]
    cases x with
    | int i =>
      show ooK ((ints? r).map _) _ = (match ints? r with | some l => some (i :: l) | none => none).map _
      cases ints? r with
      | none => rfl
      | some l =>
        show fcIK (addIK i (sumI l)) some = some (i + sumI l)
        rw [fcIK_eq, addIK_eq]
    | _ => rfl
def oSumK (d : D) : Option D := D.casesOn d none (fun _ => none) (fun _ => none) (fun _ => none) (fun xs => ooK (sumK xs) fun b => some (.int b)) (fun xs => ooK (sumK xs) fun b => some (.int b)) none none
theorem oSumK_eq : oSumK = oSum := by
  funext d
  cases d with
  | lst xs =>
    show ooK (sumK xs) _ = (ints? xs).map _
    rw [sumK_eq]
    cases ints? xs <;> rfl
  | tup xs =>
    show ooK (sumK xs) _ = (ints? xs).map _
    rw [sumK_eq]
    cases ints? xs <;> rfl
  | _ => rfl
def oLenK (d : D) : Option D := D.casesOn d none (fun _ => none) (fun _ => none) (fun _ => none) (fun xs => fcNK (cntK xs 0) fun n => some (.int (.ofNat n))) (fun xs => fcNK (cntK xs 0) fun n => some (.int (.ofNat n))) none none
theorem oLenK_eq : oLenK = oLen := by
  funext d
  cases d with
  | lst xs =>
    show fcNK (cntK xs 0) (fun n => some (D.int (.ofNat n))) = _
    rw [fcNK_eq, cntK_eq, Nat.zero_add]
    rfl
  | tup xs =>
    show fcNK (cntK xs 0) (fun n => some (D.int (.ofNat n))) = _
    rw [fcNK_eq, cntK_eq, Nat.zero_add]
    rfl
  | _ => rfl
def ixDK (xs : List D) (i : Int) : Option D := Int.rec (motive := fun _ => Option D) (fun n => nthK xs n) (fun n => fcNK (cntK xs 0) fun l => bK (Nat.ble (Nat.succ n) l) (nthK xs (l - 1 - n)) none) i
theorem ixDK_eq (xs : List D) (i : Int) : ixDK xs i = ixD xs i := by
  cases i with
  | ofNat n => exact nthK_eq xs n
  | negSucc n =>
    show fcNK (cntK xs 0) (fun l => bK (Nat.ble (n + 1) l) (nthK xs (l - 1 - n)) none) = (if n < xs.length then xs[xs.length - 1 - n]? else none)
    rw [fcNK_eq, cntK_eq, Nat.zero_add, nthK_eq]
    by_cases h : n < xs.length
    · rw [Nat.ble_eq_true_of_le h, if_pos h]; rfl
    · rw [if_neg h]
      cases e : Nat.ble (n + 1) xs.length with
      | true => exact absurd (Nat.le_of_ble_eq_true e) h
      | false => rfl
def oIxK (d e : D) : Option D := D.casesOn d none (fun _ => none) (fun _ => none) (fun _ => none) (fun xs => ooK (dIK e) fun i => ixDK xs i) (fun xs => ooK (dIK e) fun i => ixDK xs i) none none
theorem oIxK_eq : oIxK = oIx := by
  funext d e
  cases d with
  | lst xs => cases e with
    | int i => exact ixDK_eq xs i
    | _ => rfl
  | tup xs => cases e with
    | int i => exact ixDK_eq xs i
    | _ => rfl
  | _ => rfl
end
end EV
/-! .. equality, order -/
namespace EV
open PySem PySem.Spec PyProof.Rows L2
noncomputable section
def dcK {α : Type} (d : D) (o : α) (fi : Int → α) (ft fl : List D → α) : α := D.casesOn d o (fun _ => o) fi (fun _ => o) ft fl o o
theorem dcK_of {α : Type} {d : D} {o : α} {fi : Int → α} {ft fl : List D → α} (hi : ∀ i, d = .int i → fi i = o) (ht : ∀ xs, d = .tup xs → ft xs = o) (hl : ∀ xs, d = .lst xs → fl xs = o) : dcK d o fi ft fl = o := by
  cases d with
  | int i => exact hi i rfl
  | tup xs => exact ht xs rfl
  | lst xs => exact hl xs rfl
  | _ => rfl
def allK (f : D → Bool) (xs : List D) : Bool := List.rec (motive := fun _ => Bool) true (fun x _ ih => bK (f x) ih false) xs
theorem allK_eq (f : D → Bool) : ∀ xs : List D, allK f xs = xs.all f
  | [] => rfl
  | x :: r => by
    show bK (f x) (allK f r) false = _
    rw [allK_eq f r, List.all_cons]
    cases f x <;> rfl
def dokK (n : Nat) : D → Bool := Nat.rec (motive := fun _ => D → Bool) (fun _ => false) (fun _ ih d => D.casesOn d true (fun _ => true) (fun _ => true) (fun _ => true) (fun xs => allK ih xs) (fun xs => allK ih xs) false false) n
theorem dokK_eq : ∀ n, dokK n = dok n
  | 0 => rfl
  | n + 1 => by
    funext d
    cases d with
    | tup xs => show allK (dokK n) xs = xs.all (dok n); rw [allK_eq, dokK_eq n]
    | lst xs => show allK (dokK n) xs = xs.all (dok n); rw [allK_eq, dokK_eq n]
    | _ => rfl
def eqsK (f : D → D → Bool) (xs : List D) : List D → Bool := List.rec (motive := fun _ => List D → Bool) (fun ys => List.rec (motive := fun _ => Bool) true (fun _ _ _ => false) ys) (fun x _ ih ys => List.rec (motive := fun _ => Bool) false (fun y r _ => bK (f x y) (ih r) false) ys) xs
theorem eqsK_eq (f : D → D → Bool) : ∀ xs ys : List D, eqsK f xs ys = eqs f xs ys
  | [], [] => rfl
  | [], _ :: _ => rfl
  | _ :: _, [] => rfl
  | x :: xs, y :: ys => by
    show bK (f x y) (eqsK f xs ys) false = (match f x y with | true => eqs f xs ys | false => false)
    rw [eqsK_eq f xs]
    cases f x y <;> rfl
def eqfK (n : Nat) : D → D → Bool := Nat.rec (motive := fun _ => D → D → Bool) (fun _ _ => false)
  (fun n ih a b => dcK a (eqf (Nat.succ n) a b) (fun i => dcK b (eqf (Nat.succ n) a b) (fun j => eqIK i j) (fun _ => false) (fun _ => false)) (fun xs => dcK b false (fun _ => false) (fun ys => eqsK ih xs ys) (fun _ => false)) (fun xs => dcK b false (fun _ => false) (fun _ => false) (fun ys => eqsK ih xs ys))) n
theorem eqfK_eq : ∀ n, eqfK n = eqf n
  | 0 => rfl
  | n + 1 => by
    funext a b
    show dcK a (eqf (n + 1) a b) (fun i => dcK b (eqf (n + 1) a b) (fun j => eqIK i j) (fun _ => false) (fun _ => false)) (fun xs => dcK b false (fun _ => false) (fun ys => eqsK (eqfK n) xs ys) (fun _ => false)) (fun xs => dcK b false (fun _ => false) (fun _ => false) (fun ys => eqsK (eqfK n) xs ys)) = eqf (n + 1) a b
    rw [eqfK_eq n]
    cases a with
    | int i => cases b with
      | int j => exact eqIK_eq i j
      | _ => rfl
    | tup xs => cases b with
      | tup ys => exact eqsK_eq _ xs ys
      | _ => rfl
    | lst xs => cases b with
      | lst ys => exact eqsK_eq _ xs ys
      | _ => rfl
    | _ => rfl
def slowEqK (f : Bool → Bool) (d e : D) : Option D := bK (bK (nHK d) (bK (nHK e) (bK (dokK 60 e) (dokK 60 d) false) false) false) (some (.bl (f (eqfK 60 d e)))) (nilEq f d e)
theorem slowEqK_eq (f : Bool → Bool) (d e : D) : slowEqK f d e = slowEq f d e := by
  unfold slowEqK slowEq
  rw [nHK_eq, nHK_eq, dokK_eq, eqfK_eq]
  cases isH d <;> cases isH e <;> cases dok 60 e <;> cases dok 60 d <;> rfl
def oEqFK (f : Bool → Bool) (d e : D) : Option D := d2K d e (fun i j => some (.bl (f (eqIK i j)))) (slowEqK f d e)
theorem oEqFK_eq (f : Bool → Bool) : oEqFK f = oEqF f := by
  funext d e
  unfold oEqFK
  rw [slowEqK_eq]
  cases d with
  | int i => cases e with
    | int j =>
      show some (D.bl (f (eqIK i j))) = _
      rw [eqIK_eq]
      rfl
    | _ => rfl
  | _ => cases e <;> rfl
def memK (d : D) (xs : List D) : Bool := List.rec (motive := fun _ => Bool) false (fun x _ ih => bK (eqfK 60 x d) true ih) xs
theorem memK_eq (d : D) : ∀ xs : List D, memK d xs = memf d xs
  | [] => rfl
  | x :: r => by
    show bK (eqfK 60 x d) true (memK d r) = (match eqf 60 x d with | true => true | false => memf d r)
    rw [memK_eq d r, eqfK_eq]
    cases eqf 60 x d <;> rfl
def oInK (f : Bool → Bool) (d e : D) : Option D := dcK e none (fun _ => none) (fun xs => bK (bK (dokK 60 d) (allK (dokK 60) xs) false) (some (.bl (f (memK d xs)))) none) (fun xs => bK (bK (dokK 60 d) (allK (dokK 60) xs) false) (some (.bl (f (memK d xs)))) none)
theorem oInK_eq (f : Bool → Bool) : oInK f = oIn f := by
  funext d e
  cases e with
  | tup xs =>
    show bK (bK (dokK 60 d) (allK (dokK 60) xs) false) (some (D.bl (f (memK d xs)))) none = (if dok 60 d && xs.all (dok 60) then some (.bl (f (memf d xs))) else none)
    rw [dokK_eq, memK_eq, allK_eq]
    cases dok 60 d <;> cases xs.all (dok 60) <;> rfl
  | lst xs =>
    show bK (bK (dokK 60 d) (allK (dokK 60) xs) false) (some (D.bl (f (memK d xs)))) none = (if dok 60 d && xs.all (dok 60) then some (.bl (f (memf d xs))) else none)
    rw [dokK_eq, memK_eq, allK_eq]
    cases dok 60 d <;> cases xs.all (dok 60) <;> rfl
  | _ => rfl
/-! order -/
def insK (gt : D → D → Bool) (d : D) (xs : List D) : List D := List.rec (motive := fun _ => List D) [d] (fun x r ih => bK (gt d x) (x :: ih) (d :: x :: r)) xs
theorem insK_eq (gt : D → D → Bool) (d : D) : ∀ xs : List D, insK gt d xs = insR gt d xs
  | [] => rfl
  | x :: r => by
    show bK (gt d x) (x :: insK gt d r) (d :: x :: r) = (match gt d x with | true => x :: insR gt d r | false => d :: x :: r)
    rw [insK_eq gt d r]
    cases gt d x <;> rfl
def spK {α : Type} (xs : List D) : (List D → α) → α := List.rec (motive := fun _ => (List D → α) → α) (fun k => k []) (fun x _ ih k => ih fun r => k (x :: r)) xs
theorem spK_eq {α : Type} : ∀ (xs : List D) (k : List D → α), spK xs k = k xs
  | [], _ => rfl
  | x :: r, k => spK_eq r fun r => k (x :: r)
def sortK {α : Type} (gt : D → D → Bool) (xs : List D) : (List D → α) → α := List.rec (motive := fun _ => (List D → α) → α) (fun k => k []) (fun x _ ih k => ih fun l => spK (insK gt x l) k) xs
theorem sortK_eq {α : Type} (gt : D → D → Bool) : ∀ (xs : List D) (k : List D → α), sortK gt xs k = k (sortR gt xs)
  | [], _ => rfl
  | x :: r, k => by
    show sortK gt r (fun l => spK (insK gt x l) k) = _
    rw [sortK_eq gt r, spK_eq, insK_eq]
    rfl
def ltsK (e l : D → D → Bool) (xs : List D) : List D → Bool := List.rec (motive := fun _ => List D → Bool) (fun ys => List.rec (motive := fun _ => Bool) false (fun _ _ _ => true) ys) (fun x _ ih ys => List.rec (motive := fun _ => Bool) false (fun y r _ => bK (e x y) (ih r) (l x y)) ys) xs
theorem ltsK_eq (e l : D → D → Bool) : ∀ xs ys : List D, ltsK e l xs ys = lts e l xs ys
  | [], [] => rfl
  | [], _ :: _ => rfl
  | _ :: _, [] => rfl
  | x :: xs, y :: ys => by
    show bK (e x y) (ltsK e l xs ys) (l x y) = (match e x y with | true => lts e l xs ys | false => l x y)
    rw [ltsK_eq e l xs]
    cases e x y <;> rfl
def ltfK (n : Nat) : D → D → Bool := Nat.rec (motive := fun _ => D → D → Bool) (fun _ _ => false)
  (fun n ih a b => dcK a (ltf (Nat.succ n) a b) (fun i => dcK b false (fun j => ltIK i j) (fun _ => false) (fun _ => false)) (fun xs => dcK b false (fun _ => false) (fun ys => ltsK (eqfK n) ih xs ys) (fun _ => false)) (fun xs => dcK b false (fun _ => false) (fun _ => false) (fun ys => ltsK (eqfK n) ih xs ys))) n
theorem ltfK_eq : ∀ n, ltfK n = ltf n
  | 0 => rfl
  | n + 1 => by
    funext a b
    show dcK a (ltf (n + 1) a b) (fun i => dcK b false (fun j => ltIK i j) (fun _ => false) (fun _ => false)) (fun xs => dcK b false (fun _ => false) (fun ys => ltsK (eqfK n) (ltfK n) xs ys) (fun _ => false)) (fun xs => dcK b false (fun _ => false) (fun _ => false) (fun ys => ltsK (eqfK n) (ltfK n) xs ys)) = ltf (n + 1) a b
    rw [ltfK_eq n, eqfK_eq]
    cases a with
    | int i => cases b with
      | int j => exact ltIK_eq i j
      | _ => rfl
    | tup xs => cases b with
      | tup ys => exact ltsK_eq _ _ xs ys
      | _ => rfl
    | lst xs => cases b with
      | lst ys => exact ltsK_eq _ _ xs ys
      | _ => rfl
    | _ => rfl
/-- lists of ints, lists of tuples of ints that are not empty and of one length: the usual ones; else by the slow words -/
def isIK (d : D) : Bool := dcK d false (fun _ => true) (fun _ => false) (fun _ => false)
theorem isIK_eq (d : D) : isIK d = isI d := by cases d <;> rfl
def sortOpK (xs : List D) : Option D := bK (allK isIK xs) (sortK (fun a b => ltfK 60 b a) xs fun l => some (.lst l)) (bK (homog 60 xs && (xs.all fun d => match d with | .tup [] => false | _ => true)) (sortK (fun a b => ltfK 60 b a) xs fun l => some (.lst l)) none)
theorem sortOpK_eq (xs : List D) : sortOpK xs = sortOp xs := by
  unfold sortOpK sortOp
  rw [sortK_eq, allK_eq, ltfK_eq]
  have e : (isIK : D → Bool) = isI := funext isIK_eq
  rw [e]
  cases h : xs.all isI with
  | false =>
    rw [bK_f]
    cases (homog 60 xs && (xs.all fun d => match d with | .tup [] => false | _ => true)) <;> rfl
  | true =>
    rw [bK_t]
    have h1 : homog 60 xs = true := by
      cases xs with
      | nil => rfl
      | cons x r =>
        have hx := List.all_eq_true.mp h x (by simp)
        cases x with
        | int i => exact h
        | _ => cases hx
    split
    · rfl
    · rename_i h2
      rw [h1, Bool.true_and, List.all_eq_false] at h2
      obtain ⟨x, hx, hn⟩ := h2
      have := List.all_eq_true.mp h x hx
      cases x with
      | int i => exact absurd rfl hn
      | _ => cases this
def oSortK (d : D) : Option D := dcK d none (fun _ => none) sortOpK sortOpK
theorem oSortK_eq : oSortK = oSort := by
  funext d
  cases d with
  | tup xs => exact sortOpK_eq xs
  | lst xs => exact sortOpK_eq xs
  | _ => rfl
/-! list * n of one place -/
def repDK (x : D) (n : Nat) : List D := Nat.rec (motive := fun _ => List D) [] (fun _ ih => x :: ih) n
theorem repDK_eq (x : D) : ∀ n, repDK x n = (List.replicate n [x]).flatten
  | 0 => rfl
  | n + 1 => by
    show x :: repDK x n = _
    rw [repDK_eq x n]
    rfl
def intK {α : Type} (d : D) (o : α) (f : Nat → α) : α := D.casesOn d o (fun _ => o) (fun k => Int.rec (motive := fun _ => α) f (fun _ => o) k) (fun _ => o) (fun _ => o) (fun _ => o) o o
theorem intK_of {α : Type} {d : D} {o : α} {f : Nat → α} (h : ∀ m, d = .int (.ofNat m) → f m = o) : intK d o f = o := by
  cases d with
  | int k => cases k with
    | ofNat m => exact h m rfl
    | negSucc m => rfl
  | _ => rfl
def oneK {α : Type} (d : D) (o : α) (f : D → α) : α := D.casesOn d o (fun _ => o) (fun _ => o) (fun _ => o) (fun _ => o) (fun xs => List.rec (motive := fun _ => α) o (fun x r _ => List.rec (motive := fun _ => α) (f x) (fun _ _ _ => o) r) xs) o o
theorem oneK_of {α : Type} {d : D} {o : α} {f : D → α} (h : ∀ x, d = .lst [x] → f x = o) : oneK d o f = o := by
  cases d with
  | lst xs =>
    cases xs with
    | nil => rfl
    | cons x r => cases r with
      | nil => exact h x rfl
      | cons y r => rfl
  | _ => rfl
def oRepLC (c : Nat) (d e : D) : Option D := oneK d (oRepL d e) fun x => intK e (oRepL d e) fun m => bK (Nat.ble m c) (some (.lst (repDK x m))) (oRepL d e)
theorem rep_int (k : Int) (xs : List D) (h1 : k ≤ 16000000) (h2 : -16000000 ≤ k) (h3 : lenOk (xs.length * k.toNat) = true) : oRepL (.lst xs) (.int k) = some (.lst (List.replicate k.toNat xs).flatten) := by
  unfold oRepL
  simp only [decide_eq_true h1, decide_eq_true h2, h3, Bool.and_self]
theorem lenOk_small {n : Nat} (h : n ≤ 1000) : lenOk n = true := by
  unfold lenOk
  exact Nat.ble_eq_true_of_le (by omega)
theorem oRepL_one (x : D) (m : Nat) (h : m ≤ 1000) : oRepL (.lst [x]) (.int (.ofNat m)) = some (.lst (repDK x m)) := by
  rw [rep_int (.ofNat m) [x] (by simp only [Int.ofNat_eq_natCast]; omega) (by simp only [Int.ofNat_eq_natCast]; omega) (lenOk_small (by simp; exact h)), repDK_eq]
  rfl
theorem oRepLC_eq {c : Nat} (hc : c ≤ 1000) : oRepLC c = oRepL := by
  funext d e
  unfold oRepLC
  refine oneK_of fun x hx => intK_of fun m hm => ?_
  cases h : Nat.ble m c with
  | false => rw [bK_f]
  | true =>
    rw [bK_t, hx, hm]
    exact (oRepL_one x m (Nat.le_trans (Nat.le_of_ble_eq_true h) hc)).symm
def oRepLK : D → D → Option D := oRepLC 1000
theorem oRepLK_eq : oRepLK = oRepL := oRepLC_eq (Nat.le_refl 1000)
end
end EV
/-! a body of parts that keep nothing but the hand -/
namespace EV
open PySem PySem.Spec PyProof.Rows L2 RZ
noncomputable def pDic (k m : PX) : PX := fun st => ooK (k st) fun x => ooK (dIK x) fun _ => ooK (m st) fun _ => some .dic
theorem q_dic (k m : PX) : liE (pDic k m) = mDic (liE k) (liE m) := by
  funext st
  dsimp only [liE, pDic, mDic]
  cases k st with
  | none => rfl
  | some x =>
    simp only [ooK_some, opK_some, bd_ok]
    cases x with
    | int i =>
      show opK (ooK (m st) _) _ = R.bind (opK (m st) _) _
      cases m st <;> rfl
    | _ => rfl
noncomputable def natK {α : Type} (d : D) (o : α) (f : Nat → α) : α := D.casesOn d o (fun _ => o) (fun k => Int.rec (motive := fun _ => α) f (fun _ => o) k) (fun _ => o) (fun _ => o) (fun _ => o) o o
noncomputable def mPopAtK (g : GS) (s : SS) (m : ME) : ME := fun st => opK (g st) fun _ => bindK (m st) fun p => opK (g p.2) fun l => leK l fun xs => natK p.1 .bad fun k => bK (Nat.ble k 16000000) (opK (nthK xs k) fun d => .ok (d, s (some (.lst (xs.eraseIdx k))) p.2)) .bad
theorem q_popAt {i : Nat} {g : GS} {s : SS} (hg : GI i g) (hs : SI i s) (m : ME) : mPopAtK g s m = mPopAt i m := by
  funext st
  unfold mPopAtK mPopAt
  rw [hg.eq]
  cases getS st i with
  | none => rfl
  | some l0 =>
    show bindK (m st) _ = R.bind (m st) _
    rw [bindK_eq]
    congr 1
    funext p
    obtain ⟨d, sp⟩ := p
    rw [hg.eq]
    show opK (getS sp i) _ = (match getS sp i with | some (.lst xs) => (match d with | .int (.ofNat k) => _ | _ => _) | _ => _)
    cases getS sp i with
    | none => rfl
    | some l =>
      cases l with
      | lst xs =>
        cases d with
        | int z =>
          cases z with
          | ofNat k =>
            show bK (lenOk k) (opK (nthK xs k) _) .bad = (match lenOk k with | true => (match xs[k]? with | some d => _ | none => _) | false => _)
            rw [nthK_eq]
            cases lenOk k with
            | false => rfl
            | true =>
              show opK xs[k]? _ = (match xs[k]? with | some d => _ | none => _)
              cases xs[k]? with
              | none => rfl
              | some d =>
                show R.ok (d, s (some (.lst (xs.eraseIdx k))) sp) = R.ok (d, sp.set i (some (.lst (xs.eraseIdx k))))
                rw [hs.eq]
          | negSucc k => rfl
        | _ => rfl
      | _ => rfl
theorem sq_assoc (a b c : MS) : sSq (sSq a b) c = sSq a (sSq b c) := by
  funext st
  unfold sSq
  rw [bd_assoc]
  congr 1
  funext f
  cases f <;> rfl
theorem sq_skip (c : MS) : sSq sSkip c = c := by
  funext st
  rfl
def okNx (n : Nat) : Fl → Bool
  | .nx st => okSt n st
  | _ => false
theorem split_all {n : Nat} {mA mB : MS} {p : Fl → Prop} (hA : (mA (st1 n)).allb (okNx n) = true) (hB : (mB (st1 n)).all p) : (sSq mA (sFgt [1] mB) (st1 n)).all p := by
  unfold sSq
  refine R.bind_all (R.all_mono (fun fl q => ?_) (R.all_of (fun _ z => z) hA))
  cases fl with
  | nx st2 =>
    show R.all (mB (maskA [1] 0 st2)) p
    rw [okSt_mask q]
    exact hB
  | bk _ => cases q
  | ct _ => cases q
  | rt _ => cases q
theorem turns_all2 {n i : Nat} {m : MS} (hi : i ≠ 1) (h : (m (st1 n)).all fun fl => okFl n fl = true) : ∀ (ds : List D) (st : AS), maskA [1] 0 st = st1 n → (forL (.nm i) (sFgt [1] m) ds st).all fun fl => ∃ st', fl = .nx st' ∧ maskA [1] 0 st' = st1 n
  | [], st, e => ⟨st, rfl, e⟩
  | d :: ds, st, e => by
    have e1 : maskA [1] 0 (st.set i (some d)) = st1 n := by
      rcases mask_set (x := some d) hi (st := st) (j := 0) with q | q
      · rw [Nat.sub_zero] at q
        rw [q, e]
      · omega
    show R.all (R.bind (m (maskA [1] 0 (st.set i (some d)))) _) _
    rw [e1]
    refine R.bind_all (R.all_mono (fun fl q => ?_) h)
    cases fl with
    | nx st2 => exact turns_all2 hi h ds st2 (okSt_mask q)
    | ct st2 => exact turns_all2 hi h ds st2 (okSt_mask q)
    | bk _ => cases q
    | rt _ => cases q
theorem mask1 {n : Nat} (hn : 2 ≤ n) : maskA [1] 0 (st1 n) = st1 n := by
  refine okSt_mask ?_
  unfold okSt st1
  rw [Bool.and_eq_true, List.length_set, List.length_replicate]
  refine ⟨Nat.beq_refl n, ?_⟩
  match n, hn with
  | n + 2, _ => rfl
theorem loop_all {n i : Nat} {k : Int} {m e : MS} {p : Fl → Prop} (hi : i ≠ 1) (hn : 2 ≤ n) (hk : fits62 k = true) (h : (m (st1 n)).all fun fl => okFl n fl = true) (h2 : (e (st1 n)).all p) :
    (sSq (sFor (sR1 (mK (.int k))) (.nm i) (sFgt [1] m)) (sFgt [1] e) (st1 n)).all p := by
  show R.all (R.bind (R.bind (match fits62 k with | true => R.ok (rng 0 k.toNat, st1 n) | false => .bad) (fun x => forL (.nm i) (sFgt [1] m) x.1 x.2)) _) _
  rw [hk]
  refine R.bind_all (R.all_mono (fun fl q => ?_) (turns_all2 hi h _ _ (mask1 hn)))
  obtain ⟨st', rfl, e'⟩ := q
  show R.all (e (maskA [1] 0 st')) _
  rw [e']
  exact h2
theorem rt_all {x : R Fl} (h : x.allb okRt = true) : x.all fun fl => fl = .rt (.bl true) := R.all_of (fun _ z => okRt_eq z) h
theorem fl_all {n : Nat} {x : R Fl} (h : x.allb (okFl n) = true) : x.all fun fl => okFl n fl = true := R.all_of (fun _ z => z) h
end EV
/-! the fast words, a step at a time (for simp) -/
namespace EV
open PySem PySem.Spec PyProof.Rows L2
section
variable {α β : Type}
theorem bk_ok (a : α) (f : α → R β) : bindK (.ok a) f = f a := rfl
theorem bk_dr (n : Nat) (k : Nat → R α) (f : α → R β) : bindK (.dr n k) f = .dr n fun d => bindK (k d) f := rfl
theorem hd_cons (x : Option D) (r : AS) : hdK (x :: r) = x := rfl
theorem tl_cons (k : GS) (x : Option D) (r : AS) : tlK k (x :: r) = k r := rfl
theorem s0_cons (v x : Option D) (r : AS) : s0K v (x :: r) = v :: r := rfl
theorem st_cons (k : SS) (v x : Option D) (r : AS) : stK k v (x :: r) = x :: k v r := rfl
theorem in_nil (n : Nat) : initK [] n = repK n := rfl
theorem in_cons (x : D) (r : List D) (n : Nat) : initK (x :: r) (n + 1) = some x :: initK r n := rfl
theorem re_zero : repK 0 = [] := rfl
theorem re_succ (n : Nat) : repK (n + 1) = none :: repK n := rfl
theorem fl_nx (st : AS) (n : AS → R Fl) (r : D → R Fl) (b c : AS → R Fl) : flK (.nx st) n r b c = n st := rfl
theorem fl_rt (d : D) (n : AS → R Fl) (r : D → R Fl) (b c : AS → R Fl) : flK (.rt d) n r b c = r d := rfl
theorem fl_bk (st : AS) (n : AS → R Fl) (r : D → R Fl) (b c : AS → R Fl) : flK (.bk st) n r b c = b st := rfl
theorem fl_ct (st : AS) (n : AS → R Fl) (r : D → R Fl) (b c : AS → R Fl) : flK (.ct st) n r b c = c st := rfl
theorem rt_rt (ro : Bool) (d : D) : retK ro (.rt d) = .ok d := rfl
theorem rt_nx (st : AS) : retK false (.nx st) = .ok .non := rfl
theorem dB_bl (b : Bool) : dBK (.bl b) = some b := rfl
theorem dI_int (i : Int) : dIK (.int i) = some i := rfl
theorem sq_tup (xs : List D) : sqD (.tup xs) = some xs := rfl
theorem sq_lst (xs : List D) : sqD (.lst xs) = some xs := rfl
theorem at_tup (A : ALs) (xs : List D) (st : AS) : aTp A (.tup xs) st = A xs st := rfl
theorem al_nil (st : AS) : aNil [] st = some st := rfl
theorem al_cons (A : AT) (B : ALs) (x : D) (r : List D) (st : AS) : aCons A B (x :: r) st = ooK (A x st) fun st1 => B r st1 := rfl
theorem nm_set (s : SS) (d : D) (st : AS) : aNm s d st = some (s (some d) st) := rfl
theorem isi_tup_t (xs : List D) : oIsi [.tup] (.tup xs) = some (.bl true) := rfl
theorem nh_int (i : Int) : nHK (.int i) = true := rfl
theorem nh_tup (xs : List D) : nHK (.tup xs) = true := rfl
theorem nh_lst (xs : List D) : nHK (.lst xs) = true := rfl
theorem nh_bl (b : Bool) : nHK (.bl b) = true := rfl
theorem nh_all_nil : allNH [] = true := rfl
theorem nh_all_cons (x : D) (r : List D) : allNH (x :: r) = bK (nHK x) (allNH r) false := rfl
theorem ln_nil (n : Nat) : lenK [] n = Nat.ble n 16000000 := rfl
theorem ln_cons (x : D) (r : List D) (n : Nat) : lenK (x :: r) n = lenK r (n + 1) := rfl
theorem lc_nil (A : AT) (c : PB) (e : PX) (st : AS) (n : Nat) : lcP A c e st [] n = some [] := rfl
theorem lc_cons (A : AT) (c : PB) (e : PX) (st : AS) (d : D) (r : List D) (n : Nat) : lcP A c e st (d :: r) n = ooK (A d st) fun st1 => ooK (c st1) fun b => bK b (ooK (e st1) fun x => bK (nHK x) (bK (Nat.ble n 16000000) (ooK (lcP A c e st r (n + 1)) fun r => some (x :: r)) none) none) (lcP A c e st r n) := rfl
theorem lk_nil (A : AT) (c : MT) (e : ME) (st : AS) (n : Nat) : lcK A c e st [] n = .ok [] := rfl
theorem lk_cons (A : AT) (c : MT) (e : ME) (st : AS) (d : D) (r : List D) (n : Nat) : lcK A c e st (d :: r) n = opK (A d st) fun st1 => bindK (c st1) fun b => bK b.1 (bindK (e st1) fun x => bK (nHK x.1) (bK (Nat.ble n 16000000) (bindK (lcK A c e st r (n + 1)) fun r => .ok (x.1 :: r)) .bad) .bad) (lcK A c e st r n) := rfl
theorem fo_nil (A : AT) (b : MS) (st : AS) : forK A b [] st = .ok (.nx st) := rfl
theorem fo_cons (A : AT) (b : MS) (d : D) (r : List D) (st : AS) : forK A b (d :: r) st = opK (A d st) fun st1 => bindK (b st1) fun f => flK f (forK A b r) (fun d => .ok (.rt d)) (fun s => .ok (.nx s)) (forK A b r) := rfl
end
theorem all_l (xs : List D) : oAllK (.lst xs) = ooK (allBK xs) fun b => some (.bl b) := rfl
theorem any_l (xs : List D) : oAnyK (.lst xs) = ooK (anyBK xs) fun b => some (.bl b) := rfl
theorem allB_nil : allBK [] = some true := rfl
theorem anyB_nil : anyBK [] = some false := rfl
theorem allB_cons (x : D) (r : List D) : allBK (x :: r) = ooK (dBK x) fun b => ooK (allBK r) fun c => bK b (some c) (some false) := rfl
theorem anyB_cons (x : D) (r : List D) : anyBK (x :: r) = ooK (dBK x) fun b => ooK (anyBK r) fun c => bK b (some true) (some c) := rfl
theorem ix_t (xs : List D) (n : Nat) : oIxK (.tup xs) (.int (.ofNat n)) = nthK xs n := rfl
theorem ix_l (xs : List D) (n : Nat) : oIxK (.lst xs) (.int (.ofNat n)) = nthK xs n := rfl
theorem nth_z (x : D) (r : List D) : nthK (x :: r) 0 = some x := rfl
theorem nth_s (x : D) (r : List D) (n : Nat) : nthK (x :: r) (n + 1) = nthK r n := rfl
theorem ix_t0 (x : D) (r : List D) : oIxK (.tup (x :: r)) (.int 0) = some x := rfl
theorem ix_l0 (x : D) (r : List D) : oIxK (.lst (x :: r)) (.int 0) = some x := rfl
theorem ix_l1 (x y : D) (r : List D) : oIxK (.lst (x :: y :: r)) (.int 1) = some y := rfl
theorem ix_t1 (x y : D) (r : List D) : oIxK (.tup (x :: y :: r)) (.int 1) = some y := rfl
theorem ix_t2 (x y z : D) (r : List D) : oIxK (.tup (x :: y :: z :: r)) (.int 2) = some z := rfl
theorem seq_k (m : ME) (st : AS) : sSeq m st = bindK (m st) fun p => opK (sqD p.1) fun xs => .ok (xs, p.2) := by
  unfold sSeq
  rw [bindK_eq]
  congr 1
  funext p
  obtain ⟨d, s⟩ := p
  cases d <;> rfl
theorem ix_t3 (x y z u : D) (r : List D) : oIxK (.tup (x :: y :: z :: u :: r)) (.int 3) = some u := rfl
theorem skip_nx (st : AS) : sSkip st = .ok (.nx st) := rfl
/-! ints -/
theorem lt_t {i j : Int} (h : i < j) : ltIK i j = true := by rw [ltIK_eq]; exact decide_eq_true h
theorem lt_f {i j : Int} (h : j ≤ i) : ltIK i j = false := by rw [ltIK_eq]; exact decide_eq_false (by omega)
theorem eq_t {i j : Int} (h : i = j) : eqIK i j = true := by rw [eqIK_eq]; exact decide_eq_true h
theorem eq_f {i j : Int} (h : i ≠ j) : eqIK i j = false := by rw [eqIK_eq]; exact decide_eq_false h
theorem ge_i (i j : Int) : oGeK (.int i) (.int j) = some (.bl (decide (j ≤ i))) := congrFun (congrFun oGeK_eq _) _
theorem le_i (i j : Int) : oLeK (.int i) (.int j) = some (.bl (decide (i ≤ j))) := congrFun (congrFun oLeK_eq _) _
theorem lt_i (i j : Int) : oLtK (.int i) (.int j) = some (.bl (decide (i < j))) := congrFun (congrFun oLtK_eq _) _
theorem gt_i (i j : Int) : oGtK (.int i) (.int j) = some (.bl (decide (j < i))) := congrFun (congrFun oGtK_eq _) _
theorem add_i (i j : Int) : oAddK (.int i) (.int j) = some (.int (i + j)) := congrFun (congrFun oAddK_eq _) _
theorem sub_i (i j : Int) : oSubK (.int i) (.int j) = some (.int (i - j)) := congrFun (congrFun oSubK_eq _) _
theorem mod_i {i j : Int} (h : j ≠ 0) : oModK (.int i) (.int j) = some (.int (i.fmod j)) := by
  rw [oModK_eq]
  show (if decide (j ≠ 0) = true then _ else none) = _
  rw [if_pos (decide_eq_true h)]
theorem div_i {i j : Int} (h : j ≠ 0) (h2 : j.natAbs < 1073741824) : oDivK (.int i) (.int j) = some (.int (i.fdiv j)) := by
  rw [oDivK_eq]
  show (if divB j = true then _ else none) = _
  have : divB j = true := by unfold divB; rw [decide_eq_true h, decide_eq_true h2]; rfl
  rw [if_pos this]
theorem mul_i {i j : Int} (h : -1000000000 < i) (h2 : i < 1000000000) : oMulK (.int i) (.int j) = some (.int (i * j)) := by
  rw [oMulK_eq]
  exact mul_int i j (sm64' (by omega) (by omega))
theorem eq_i (f : Bool → Bool) (i j : Int) : oEqFK f (.int i) (.int j) = some (.bl (f (decide (i = j)))) := congrFun (congrFun (oEqFK_eq f) _) _
theorem len_t (xs : List D) : oLenK (.tup xs) = some (.int xs.length) := congrFun oLenK_eq _
theorem len_l (xs : List D) : oLenK (.lst xs) = some (.int xs.length) := congrFun oLenK_eq _
theorem ble_ok {n : Nat} (h : n ≤ 16000000) : Nat.ble n 16000000 = true := Nat.ble_eq_true_of_le h
theorem chl (i j : Int) : iop .lt i j = decide (i < j) := rfl
theorem chle (i j : Int) : iop .le i j = decide (i ≤ j) := rfl
theorem int_i (i : Int) : oInt (.int i) = some (.int i) := rfl
theorem fck_eq {α : Type} (d : D) (k : D → α) : fcK 6 d k = k d := fcK_eq 6 d k
theorem fclk_eq {α : Type} (ds : List D) (k : List D → α) : fcLK (fcK 6) ds k = k ds := fcLK_eq (fcK_eq 6) ds k
end EV
/-! comprehensions, loops, sets: what holds of them -/
namespace EV
open PySem PySem.Spec PyProof.Rows L2 RZ
theorem all_sq {a b : MS} {st : AS} {p : Fl → Prop} (h : (a st).all fun fl => ∃ st', fl = .nx st' ∧ (b st').all p) : (sSqK a b st).all p := by
  unfold sSqK
  rw [bindK_eq]
  refine R.bind_all (R.all_mono (fun fl q => ?_) h)
  obtain ⟨st', rfl, q⟩ := q
  exact q
theorem all_bk {α β : Type} {x : R α} {f : α → R β} {p : β → Prop} (h : x.all fun a => (f a).all p) : (bindK x f).all p := by
  rw [bindK_eq]
  exact R.bind_all h
theorem bk_assoc {α β γ : Type} (x : R α) (f : α → R β) (g : β → R γ) : bindK (bindK x f) g = bindK x fun a => bindK (f a) g := by
  rw [bindK_eq, bindK_eq, bindK_eq, bd_assoc]
  congr 1
  funext a
  rw [bindK_eq]
theorem split_k {ks : List Nat} {s0 s1 : AS} {mA mB : MS} {p : Fl → Prop} (hA : (mA s0).all fun fl => ∃ st, fl = .nx st ∧ maskA ks 0 st = s1) (hB : (mB s1).all p) : (sSq mA (sFgt ks mB) s0).all p := by
  unfold sSq
  refine R.bind_all (R.all_mono (fun fl q => ?_) hA)
  obtain ⟨st, rfl, e⟩ := q
  show R.all (mB (maskA ks 0 st)) p
  rw [e]
  exact hB
theorem split_p {ks : List Nat} {s0 : AS} {S : AS → Prop} {mA mB : MS} {p : Fl → Prop} (hA : (mA s0).all fun fl => ∃ st, fl = .nx st ∧ S (maskA ks 0 st)) (hB : ∀ s, S s → (mB s).all p) : (sSq mA (sFgt ks mB) s0).all p := by
  unfold sSq
  refine R.bind_all (R.all_mono (fun fl q => ?_) hA)
  obtain ⟨st, rfl, e⟩ := q
  exact hB _ e
section
variable {A : AT} {st : AS}
theorem lcK_all {c : MT} {e : ME} {Pm : D → Prop} : ∀ (ds : List D) (n : Nat), (∀ d ∈ ds, ∃ st1, A d st = some st1 ∧ (∃ s2, c st1 = .ok (true, s2)) ∧ (e st1).all fun x => Pm x.1 ∧ nHK x.1 = true) → n + ds.length ≤ 16000000 → (lcK A c e st ds n).all fun l => l.length = ds.length ∧ ∀ x ∈ l, Pm x
  | [], n, _, _ => ⟨rfl, fun x h => nomatch h⟩
  | d :: r, n, h, hn => by
    obtain ⟨st1, h1, ⟨s2, h2⟩, h3⟩ := h d (by simp)
    rw [List.length_cons] at hn
    rw [lk_cons, h1, opK_some, h2, bk_ok, bK_t]
    refine all_bk (R.all_mono (fun x hx => ?_) h3)
    rw [hx.2, bK_t, ble_ok (by omega), bK_t]
    refine all_bk (R.all_mono (fun l hl => ?_) (lcK_all r (n + 1) (fun d hd => h d (by simp [hd])) (by omega)))
    refine ⟨by rw [List.length_cons, List.length_cons, hl.1], fun y hy => ?_⟩
    rcases List.mem_cons.mp hy with q | q
    · rw [q]; exact hx.1
    · exact hl.2 y q
theorem lcK_map {c : MT} {e : ME} {f : D → D} : ∀ (ds : List D) (n : Nat), (∀ d ∈ ds, ∃ st1, A d st = some st1 ∧ (∃ s2, c st1 = .ok (true, s2)) ∧ (∃ s3, e st1 = .ok (f d, s3)) ∧ nHK (f d) = true) → n + ds.length ≤ 16000000 → lcK A c e st ds n = .ok (ds.map f)
  | [], n, _, _ => rfl
  | d :: r, n, h, hn => by
    obtain ⟨st1, h1, ⟨s2, h2⟩, ⟨s3, h3⟩, h4⟩ := h d (by simp)
    rw [List.length_cons] at hn
    rw [lk_cons, h1, opK_some, h2, bk_ok, bK_t, h3, bk_ok, h4, bK_t, ble_ok (by omega), bK_t, lcK_map r (n + 1) (fun d hd => h d (by simp [hd])) (by omega), bk_ok]
    rfl
theorem lcK_filter {c : MT} {e : ME} {f : D → Bool} : ∀ (ds : List D) (n : Nat), (∀ d ∈ ds, ∃ st1, A d st = some st1 ∧ (∃ s2, c st1 = .ok (f d, s2)) ∧ (∃ s3, e st1 = .ok (d, s3)) ∧ nHK d = true) → n + ds.length ≤ 16000000 → lcK A c e st ds n = .ok (ds.filter f)
  | [], n, _, _ => rfl
  | d :: r, n, h, hn => by
    obtain ⟨st1, h1, ⟨s2, h2⟩, ⟨s3, h3⟩, h4⟩ := h d (by simp)
    rw [List.length_cons] at hn
    rw [lk_cons, h1, opK_some, h2, bk_ok]
    cases e2 : f d with
    | true =>
      rw [bK_t, h3, bk_ok, h4, bK_t, ble_ok (by omega), bK_t, lcK_filter r (n + 1) (fun d hd => h d (by simp [hd])) (by omega), bk_ok, List.filter_cons, e2]
      rfl
    | false =>
      rw [bK_f, lcK_filter r n (fun d hd => h d (by simp [hd])) (by omega), List.filter_cons, e2]
      rfl
theorem lcP_map {c : PB} {e : PX} {f : D → D} : ∀ (ds : List D) (n : Nat), (∀ d ∈ ds, ∃ st1, A d st = some st1 ∧ c st1 = some true ∧ e st1 = some (f d) ∧ nHK (f d) = true) → n + ds.length ≤ 16000000 → lcP A c e st ds n = some (ds.map f)
  | [], n, _, _ => rfl
  | d :: r, n, h, hn => by
    obtain ⟨st1, h1, h2, h3, h4⟩ := h d (by simp)
    rw [List.length_cons] at hn
    rw [lc_cons, h1, ooK_some, h2, ooK_some, bK_t, h3, ooK_some, h4, bK_t, ble_ok (by omega), bK_t, lcP_map r (n + 1) (fun d hd => h d (by simp [hd])) (by omega), ooK_some]
    rfl
theorem lcP_mapg {α : Type} {c : PB} {e : PX} {g h : α → D} : ∀ (l : List α) (n : Nat), (∀ r ∈ l, ∃ st1, A (g r) st = some st1 ∧ c st1 = some true ∧ e st1 = some (h r) ∧ nHK (h r) = true) → n + l.length ≤ 16000000 → lcP A c e st (l.map g) n = some (l.map h)
  | [], n, _, _ => rfl
  | d :: r, n, hh, hn => by
    obtain ⟨st1, h1, h2, h3, h4⟩ := hh d (by simp)
    rw [List.length_cons] at hn
    rw [List.map_cons, lc_cons, h1, ooK_some, h2, ooK_some, bK_t, h3, ooK_some, h4, bK_t, ble_ok (by omega), bK_t, lcP_mapg r (n + 1) (fun d hd => hh d (by simp [hd])) (by omega), ooK_some]
    rfl
theorem lcP_filterg {α : Type} {c : PB} {e : PX} {g h : α → D} {f : α → Bool} : ∀ (l : List α) (n : Nat), (∀ r ∈ l, ∃ st1, A (g r) st = some st1 ∧ c st1 = some (f r) ∧ e st1 = some (h r) ∧ nHK (h r) = true) → n + l.length ≤ 16000000 → lcP A c e st (l.map g) n = some ((l.filter f).map h)
  | [], n, _, _ => rfl
  | d :: r, n, hh, hn => by
    obtain ⟨st1, h1, h2, h3, h4⟩ := hh d (by simp)
    rw [List.length_cons] at hn
    rw [List.map_cons, lc_cons, h1, ooK_some, h2, ooK_some]
    cases e2 : f d with
    | true =>
      rw [bK_t, h3, ooK_some, h4, bK_t, ble_ok (by omega), bK_t, lcP_filterg r (n + 1) (fun d hd => hh d (by simp [hd])) (by omega), ooK_some, List.filter_cons, e2]
      rfl
    | false =>
      rw [bK_f, lcP_filterg r n (fun d hd => hh d (by simp [hd])) (by omega), List.filter_cons, e2]
      rfl
theorem lcK_mapg {α : Type} {c : MT} {e : ME} {g h : α → D} : ∀ (l : List α) (n : Nat), (∀ r ∈ l, ∃ st1, A (g r) st = some st1 ∧ (∃ s2, c st1 = .ok (true, s2)) ∧ (∃ s3, e st1 = .ok (h r, s3)) ∧ nHK (h r) = true) → n + l.length ≤ 16000000 → lcK A c e st (l.map g) n = .ok (l.map h)
  | [], n, _, _ => rfl
  | d :: r, n, hh, hn => by
    obtain ⟨st1, h1, ⟨s2, h2⟩, ⟨s3, h3⟩, h4⟩ := hh d (by simp)
    rw [List.length_cons] at hn
    rw [List.map_cons, lk_cons, h1, opK_some, h2, bk_ok, bK_t, h3, bk_ok, h4, bK_t, ble_ok (by omega), bK_t, lcK_mapg r (n + 1) (fun d hd => hh d (by simp [hd])) (by omega), bk_ok]
    rfl
/-- a loop that is never left early -/
theorem forK_all {b : MS} {I : AS → Prop} : ∀ (ds : List D) (st : AS), (∀ d ∈ ds, ∀ st, I st → ∃ st1, A d st = some st1 ∧ (b st1).all fun fl => ∃ st2, (fl = .nx st2 ∨ fl = .ct st2) ∧ I st2) → I st → (forK A b ds st).all fun fl => ∃ st2, fl = .nx st2 ∧ I st2
  | [], st, _, h => ⟨st, rfl, h⟩
  | d :: r, st, h, hi => by
    obtain ⟨st1, h1, h2⟩ := h d (by simp) st hi
    rw [fo_cons, h1, opK_some]
    refine all_bk (R.all_mono (fun fl q => ?_) h2)
    obtain ⟨st2, e, i2⟩ := q
    rcases e with rfl | rfl
    · exact forK_all r st2 (fun d hd => h d (by simp [hd])) i2
    · exact forK_all r st2 (fun d hd => h d (by simp [hd])) i2
/-- .. with a state of its own -/
theorem forK_fold {α : Type} {b : MS} {I : α → AS → Prop} {f : α → D → α} : ∀ (ds : List D) (a : α) (st : AS), (∀ d ∈ ds, ∀ a st, I a st → ∃ st1, A d st = some st1 ∧ ∃ st2, (b st1 = .ok (.nx st2) ∨ b st1 = .ok (.ct st2)) ∧ I (f a d) st2) → I a st → ∃ st2, forK A b ds st = .ok (.nx st2) ∧ I (ds.foldl f a) st2
  | [], a, st, _, h => ⟨st, rfl, h⟩
  | d :: r, a, st, h, hi => by
    obtain ⟨st1, h1, st2, h2, i2⟩ := h d (by simp) a st hi
    obtain ⟨st3, h3, i3⟩ := forK_fold (b := b) (I := I) (f := f) r (f a d) st2 (fun d hd => h d (by simp [hd])) i2
    refine ⟨st3, ?_, i3⟩
    rw [fo_cons, h1, opK_some]
    rcases h2 with h2 | h2
    · rw [h2, bk_ok, fl_nx]; exact h3
    · rw [h2, bk_ok, fl_ct]; exact h3
end
/-! calls -/
theorem asK_call {A : AT} {φ : List D → R D} {l : PL} {st : AS} {xs : List D} {Pm : D → Prop} {Q : Fl → Prop} (h1 : l st = some xs) (h2 : (φ xs).all Pm) (h3 : ∀ r, Pm r → ∃ st', A r st = some st' ∧ Q (.nx st')) : (sAsK A (mCallP φ l) st).all Q := by
  unfold sAsK mCallP
  refine all_bk ?_
  rw [h1, opK_some, fclk_eq]
  refine all_bk (R.all_mono (fun r hr => ?_) h2)
  rw [fck_eq]
  obtain ⟨st', e, q⟩ := h3 r hr
  show (opK (A r st) _).all Q
  rw [e, opK_some]
  exact q
theorem asK_callK {A : AT} {φ : List D → R D} {l : ML} {st : AS} {Pm : D → Prop} {Q : Fl → Prop} (h1 : (l st).all fun p => p.2 = st ∧ (φ p.1).all Pm) (h3 : ∀ r, Pm r → ∃ st', A r st = some st' ∧ Q (.nx st')) : (sAsK A (mCallK φ l) st).all Q := by
  unfold sAsK mCallK
  refine all_bk ?_
  refine all_bk (R.all_mono (fun p hp => ?_) h1)
  rw [fclk_eq]
  refine all_bk (R.all_mono (fun r hr => ?_) hp.2)
  rw [fck_eq, hp.1]
  obtain ⟨st', e, q⟩ := h3 r hr
  show (opK (A r st) _).all Q
  rw [e, opK_some]
  exact q
theorem callP_all {φ : List D → R D} {l : PL} {st : AS} {xs : List D} {Pm : D → Prop} (h1 : l st = some xs) (h2 : (φ xs).all Pm) : (mCallP φ l st).all fun p => p.2 = st ∧ Pm p.1 := by
  unfold mCallP
  rw [h1, opK_some, fclk_eq]
  refine all_bk (R.all_mono (fun r hr => ?_) h2)
  rw [fck_eq]
  exact ⟨rfl, hr⟩
theorem callP_ok {φ : List D → R D} {l : PL} {st : AS} {xs : List D} {v : D} (h1 : l st = some xs) (h2 : φ xs = .ok v) : mCallP φ l st = .ok (v, st) := by
  unfold mCallP
  rw [h1, opK_some, fclk_eq, h2, bk_ok, fck_eq]
theorem lcons_all {m : ME} {l : ML} {st : AS} {P1 : D → Prop} {P2 : List D → Prop} (h1 : (m st).all fun p => p.2 = st ∧ P1 p.1) (h2 : (l st).all fun p => p.2 = st ∧ P2 p.1) : (lConsK m l st).all fun p => p.2 = st ∧ ∃ x xs, p.1 = x :: xs ∧ P1 x ∧ P2 xs := by
  unfold lConsK
  refine all_bk (R.all_mono (fun p hp => ?_) h1)
  rw [hp.1]
  refine all_bk (R.all_mono (fun q hq => ?_) h2)
  exact ⟨hq.1, p.1, q.1, rfl, hp.2, hq.2⟩
/-! lists of ints -/
theorem ints_mapg {α : Type} (f : α → Int) : ∀ l : List α, ints? (l.map fun r => D.int (f r)) = some (l.map f)
  | [] => rfl
  | x :: r => by
    show (match ints? (r.map fun r => D.int (f r)) with | some l => some (f x :: l) | none => none) = _
    rw [ints_mapg f r]
    rfl
theorem maxI_ge : ∀ (l : List Int) (x : Int), x ≤ maxI x l ∧ ∀ y ∈ l, y ≤ maxI x l
  | [], x => ⟨Int.le_refl _, fun _ h => nomatch h⟩
  | z :: r, x => by
    show x ≤ maxI (if x < z then z else x) r ∧ ∀ y ∈ z :: r, y ≤ maxI (if x < z then z else x) r
    have hm : x ≤ (if x < z then z else x) ∧ z ≤ (if x < z then z else x) := by split <;> omega
    obtain ⟨h1, h2⟩ := maxI_ge r (if x < z then z else x)
    generalize (if x < z then z else x) = m at *
    refine ⟨by omega, fun y hy => ?_⟩
    rcases List.mem_cons.mp hy with q | q
    · rw [q]; omega
    · exact h2 y q
theorem maxI_le : ∀ (l : List Int) (x M : Int), x ≤ M → (∀ y ∈ l, y ≤ M) → maxI x l ≤ M
  | [], _, _, h, _ => h
  | z :: r, x, M, h, hl => by
    show maxI (if x < z then z else x) r ≤ M
    refine maxI_le r _ M ?_ fun y hy => hl y (by simp [hy])
    have := hl z (by simp)
    split <;> omega
theorem max_ok {α : Type} {f : α → Int} {l : List α} {M : Int} (h1 : ∃ r ∈ l, f r = M) (h2 : ∀ r ∈ l, f r ≤ M) : oMaxLK (.lst (l.map fun r => D.int (f r))) = some (.int M) := by
  rw [oMaxLK_eq]
  show (match ints? (l.map fun r => D.int (f r)) with | some (x :: r) => some (D.int (maxI x r)) | _ => none) = _
  rw [ints_mapg]
  cases l with
  | nil => obtain ⟨r, hr, _⟩ := h1; cases hr
  | cons z r =>
    show some (D.int (maxI (f z) (r.map f))) = _
    have le := maxI_le (r.map f) (f z) M (h2 z (by simp)) fun y hy => by
      obtain ⟨q, hq, rfl⟩ := List.mem_map.mp hy
      exact h2 q (by simp [hq])
    obtain ⟨q, hq, e⟩ := h1
    have ge : M ≤ maxI (f z) (r.map f) := by
      obtain ⟨g1, g2⟩ := maxI_ge (r.map f) (f z)
      rcases List.mem_cons.mp hq with q1 | q1
      · rw [← e, q1]; exact g1
      · rw [← e]; exact g2 _ (List.mem_map.mpr ⟨q, q1, rfl⟩)
    congr 2
    omega
theorem sum_ok {α : Type} (f : α → Int) (l : List α) : oSumK (.lst (l.map fun r => D.int (f r))) = some (.int (sumI (l.map f))) := by
  rw [oSumK_eq]
  show (ints? (l.map fun r => D.int (f r))).map (fun l => D.int (sumI l)) = _
  rw [ints_mapg]
  rfl
theorem anyB_mapg {α : Type} (f : α → Bool) : ∀ l : List α, anyBK (l.map fun r => D.bl (f r)) = some (l.any f)
  | [] => rfl
  | x :: r => by
    show ooK (dBK (.bl (f x))) (fun b => ooK (anyBK (r.map fun r => D.bl (f r))) fun c => bK b (some true) (some c)) = _
    rw [anyB_mapg f r]
    show bK (f x) (some true) (some (r.any f)) = some (f x || r.any f)
    cases f x <;> rfl
theorem allB_mapg {α : Type} (f : α → Bool) : ∀ l : List α, allBK (l.map fun r => D.bl (f r)) = some (l.all f)
  | [] => rfl
  | x :: r => by
    show ooK (dBK (.bl (f x))) (fun b => ooK (allBK (r.map fun r => D.bl (f r))) fun c => bK b (some c) (some false)) = _
    rw [allB_mapg f r]
    show bK (f x) (some (r.all f)) (some false) = some (f x && r.all f)
    cases f x <;> rfl
theorem cut_take (xs : List D) (i : Nat) : cutD xs none (some (i : Int)) = xs.take i := by
  unfold cutD
  rw [HT.sIx_none, HT.sIx_nat, List.drop_zero, Nat.sub_zero]
  by_cases h : i ≤ xs.length
  · rw [Nat.min_eq_left h]
  · rw [Nat.min_eq_right (by omega), List.take_length, List.take_of_length_le (by omega)]
theorem cut_drop (xs : List D) (i : Nat) : cutD xs (some (i : Int)) none = xs.drop i := by
  unfold cutD
  rw [HT.sIx_none, HT.sIx_nat]
  by_cases h : i ≤ xs.length
  · rw [Nat.min_eq_left h, List.take_of_length_le (by rw [List.length_drop]; omega)]
  · rw [Nat.min_eq_right (by omega), Nat.sub_self, List.take_zero, List.drop_of_length_le (by omega)]
/-! sets of tuples of whole numbers -/
abbrev tupZ (k : List Int) : D := .tup (k.map D.int)
theorem ints_map : ∀ k : List Int, ints? (k.map D.int) = some k
  | [] => rfl
  | x :: r => by
    show (match ints? (r.map D.int) with | some l => some (x :: l) | none => none) = _
    rw [ints_map r]
theorem tupi_map : ∀ ks : List (List Int), tupi? (ks.map tupZ) = some ks
  | [] => rfl
  | k :: r => by
    show (match ints? (k.map D.int) with | some k => (match tupi? (r.map tupZ) with | some ks => some (k :: ks) | none => none) | none => none) = _
    rw [ints_map, tupi_map r]
theorem oSSet_tups {ks : List (List Int)} (h0 : ks ≠ []) (h1 : ks.length < 64) (h2 : 1 ≤ wid ks) (h3 : ks.all (bdB (wid ks)) = true) : oSSet2 (.lst (ks.map tupZ)) = some (.lst ((dsort ks).map tupZ)) := by
  have e : ints? (ks.map tupZ) = none := by
    cases ks with
    | nil => exact absurd rfl h0
    | cons k r => rfl
  unfold oSSet2
  simp only [e]
  unfold oSSet
  simp only [tupi_map]
  have : (Nat.blt ks.length 64 && Nat.ble 1 (wid ks) && ks.all (bdB (wid ks))) = true := by
    rw [h3, Nat.ble_eq_true_of_le h2, Bool.and_true, Bool.and_true]
    exact Nat.ble_eq_true_of_le h1
  rw [this]
theorem oLSet_tups {ks : List (List Int)} (h0 : ks ≠ []) (h1 : ks.length < 64) (h2 : ks.Nodup) : oLSet (.lst (ks.map tupZ)) = some (.int ks.length) := by
  have e : ints? (ks.map tupZ) = none := by
    cases ks with
    | nil => exact absurd rfl h0
    | cons k r => rfl
  unfold oLSet
  simp only [e, tupi_map]
  have : Nat.blt ks.length 64 = true := Nat.ble_eq_true_of_le h1
  rw [this]
  simp only
  congr 2
  have := nodup_len dd_nodup h2 (fun x => dd_mem (l := ks) (x := x))
  rw [this]
theorem dsort_nodup {ks : List (List Int)} : (dsort ks).Nodup := by
  refine List.Pairwise.imp (fun {a b} h e => ?_) dsort_sorted
  rw [e] at h
  exact absurd h (Int.lt_irrefl _)
theorem dsort_le {ks : List (List Int)} : (dsort ks).length ≤ ks.length := nodup_le dsort_nodup fun x hx => dsort_mem hx
theorem dsort_ne {ks : List (List Int)} (h : ks ≠ []) : dsort ks ≠ [] := by
  cases ks with
  | nil => exact absurd rfl h
  | cons k r =>
    obtain ⟨y, hy, _⟩ := dsort_cov (l := k :: r) (x := k) (by simp)
    intro e
    rw [e] at hy
    cases hy
end EV
set_option maxHeartbeats 0
namespace EV
open PySem PySem.Spec PyProof.Rows L2
def fd0 : Fd := ⟨"is_integer", 1, false, ["thing"], [], (.sq (.ret (.and (.isi [.int] (.v 0)) (.one (.not (.isi [.bool] (.v 0)))))) .skip)⟩
def fd1 : Fd := ⟨"is_within", 3, false, ["thing", "low", "high"], [], (.sq (.ret (.and (.fn 0 (.cons (.v 0) .nil)) (.one (.chain .le .le (.v 1) (.v 0) (.v 2))))) .skip)⟩
def fd2 : Fd := ⟨"check_round", 1, false, ["number"], [], (.sq (.ifs (.not (.fn 1 (.cons (.v 0) (.cons (.k (.int 1)) (.cons (.g 0) .nil))))) (.sq .nev .skip) .skip) .skip)⟩
def fd3 : Fd := ⟨"is_lot", 2, false, ["number", "thing", "one", "other"], [], (.sq (.drp (.fn 2 (.cons (.v 0) .nil))) (.sq (.ifs (.or (.not (.isi [.tup] (.v 1))) (.or (.cmp .eq (.v 1) (.tup .nil)) (.one (.not (.c1 .all (.lc [2] (.nm 2) (.seq (.v 1)) .yes (.fn 1 (.cons (.v 2) (.cons (.k (.int 0)) (.cons (.bin .sub (.v 0) (.k (.int 1))) .nil)))))))))) (.sq (.ret (.k (.bl false))) .skip) .skip) (.sq (.ret (.c1 .all (.lc [2, 3] (.tp (.cons (.nm 2) (.cons (.nm 3) .nil))) (.zip (.v 1) (.sl false (.v 1) (.pt (.k (.int 1))) .np)) .yes (.cmp .lt (.v 2) (.v 3))))) .skip)))⟩
def fd4 : Fd := ⟨"check_lot", 2, false, ["number", "lot"], [], (.sq (.drp (.fn 2 (.cons (.v 0) .nil))) (.sq (.ifs (.not (.fn 3 (.cons (.v 0) (.cons (.v 1) .nil)))) (.sq .nev .skip) .skip) .skip))⟩
def fd5 : Fd := ⟨"sums", 3, false, ["number", "one", "other", "found", "mine", "its"], [3], (.sq (.drp (.fn 4 (.cons (.v 0) (.cons (.v 1) .nil)))) (.sq (.drp (.fn 4 (.cons (.v 0) (.cons (.v 2) .nil)))) (.sq (.aso 3 (.rep (.lst (.cons (.k (.int 0)) .nil)) (.v 0))) (.sq (.for_ (.seq (.v 1)) (.nm 4) (.sq (.for_ (.seq (.v 2)) (.nm 5) (.sq (.augS true 3 (.bin .mod (.c1 .int (.bin .add (.v 4) (.v 5))) (.v 0)) (.k (.int 1))) .skip)) .skip)) (.sq (.ret (.c1 .tuple (.b 3))) .skip)))))⟩
def fd6 : Fd := ⟨"fills", 3, false, ["number", "one", "other"], [], (.sq (.ret (.cmp .eq (.fn 5 (.cons (.v 0) (.cons (.v 1) (.cons (.v 2) .nil)))) (.bin .mul (.tup (.cons (.k (.int 1)) .nil)) (.v 0)))) .skip)⟩
def fd7 : Fd := ⟨"partners", 2, false, ["number", "lot", "found", "waiting", "steps", "free", "done", "taken", "one", "hour", "shift", "here", "other"], [3, 2], (.sq (.drp (.fn 4 (.cons (.v 0) (.cons (.v 1) .nil)))) (.sq (.ifs (.cmp .ne (.bin .mod (.c1 .int (.v 0)) (.c1 .len (.v 1))) (.k (.int 0))) (.sq (.ret (.lst .nil)) .skip) .skip) (.sq (.parOOS 2 3 4 (.lst .nil) (.lst (.cons (.tup (.cons (.tup (.cons (.k (.int 0)) .nil)) (.cons (.c1 .tuple (.sorted (.lc [8] (.nm 8) (.seq (.v 1)) .yes (.bin .mod (.c1 .int (.v 8)) (.v 0))))) .nil))) .nil)) (.k (.int 0))) (.sq (.wh 5000 (.cmp .ne (.b 3) (.lst .nil)) (.sq (.asg (.tp (.cons (.nm 6) (.cons (.nm 7) .nil))) (.pop 3)) (.sq (.aug true 4 (.k (.int 1))) (.sq (.ifs (.cmp .gt (.v 4) (.g 1)) (.sq .nev .skip) .skip) (.sq (.asg (.nm 5) (.lc [9] (.nm 9) (.r1 (.v 0)) (.cmp .notIn (.v 9) (.v 7)) (.v 9))) (.sq (.ifs (.cmp .eq (.v 5) (.lst .nil)) (.sq (.app 2 (.c1 .tuple (.sorted (.v 6)))) .skip) (.sq (.for_ (.seq (.v 1)) (.nm 8) (.sq (.asg (.nm 10) (.bin .mod (.c1 .int (.bin .sub (.ix (.v 5) (.k (.int 0))) (.v 8))) (.v 0))) (.sq (.asg (.nm 11) (.lc [12] (.nm 12) (.seq (.v 1)) .yes (.bin .mod (.c1 .int (.bin .add (.v 10) (.v 12))) (.v 0)))) (.sq (.ifs (.not (.c1 .any (.lc [9] (.nm 9) (.seq (.v 11)) .yes (.cmp .isIn (.v 9) (.v 7))))) (.sq (.app 3 (.tup (.cons (.bin .add (.v 6) (.tup (.cons (.v 10) .nil))) (.cons (.c1 .tuple (.sorted (.bin .add (.v 7) (.c1 .tuple (.v 11))))) .nil)))) .skip) .skip) .skip)))) .skip)) .skip)))))) (.sq (.ret (.sset (.b 2))) .skip)))))⟩
def fd8 : Fd := ⟨"partner", 2, false, ["number", "lot", "some"], [], (.sq (.asg (.nm 2) (.fn 7 (.cons (.v 0) (.cons (.v 1) .nil)))) (.sq (.ret (.ifx (.cmp .ne (.v 2) (.lst .nil)) (.ix (.v 2) (.k (.int 0))) (.k .non))) .skip))⟩
def fd9 : Fd := ⟨"stays_by", 2, false, ["number", "lot", "found", "shift", "one"], [2], (.sq (.drp (.fn 4 (.cons (.v 0) (.cons (.v 1) .nil)))) (.sq (.aso 2 (.lst .nil)) (.sq (.for_ (.r1 (.v 0)) (.nm 3) (.sq (.ifs (.cmp .eq (.sorted (.lc [4] (.nm 4) (.seq (.v 1)) .yes (.bin .mod (.c1 .int (.bin .add (.v 4) (.v 3))) (.v 0)))) (.list (.v 1))) (.sq (.app 2 (.v 3)) .skip) .skip) .skip)) (.sq (.ret (.c1 .tuple (.b 2))) .skip))))⟩
def fd10 : Fd := ⟨"_law_draw", 2, false, ["hand", "many", "number", "cell", "digit"], [], .nev⟩
def fd11 : Fd := ⟨"_law_some", 2, false, ["hand", "things"], [], (.sq (.ret (.ix (.v 1) (.fn 10 (.cons (.v 0) (.cons (.c1 .len (.v 1)) .nil))))) .skip)⟩
def fd12 : Fd := ⟨"_law_is_int", 3, false, ["thing", "least", "most"], [], (.sq (.ifs (.not (.isi [.int] (.v 0))) (.sq (.ret (.k (.bl false))) .skip) .skip) (.sq (.ifs (.isi [.bool] (.v 0)) (.sq (.ret (.k (.bl false))) .skip) .skip) (.sq (.ret (.chain .le .le (.v 1) (.v 0) (.v 2))) .skip)))⟩
def fd13 : Fd := ⟨"_law_deep", 1, false, ["hand", "thing", "turn"], [], (.sq (.asg (.nm 1) (.fn 11 (.cons (.v 0) (.cons (.lst (.cons (.k .non) (.cons (.k (.int 0)) (.cons (.k (.str "a")) .nil)))) .nil)))) (.sq (.for_ (.r1 (.bin .add (.k (.int 18)) (.fn 10 (.cons (.v 0) (.cons (.k (.int 18)) .nil))))) (.nm 2) (.sq (.asg (.nm 1) (.fn 11 (.cons (.v 0) (.cons (.lst (.cons (.tup (.cons (.v 1) .nil)) (.cons (.lst (.cons (.v 1) .nil)) (.cons (.dic1 (.k (.int 0)) (.v 1)) .nil)))) .nil)))) .skip)) (.sq (.ret (.v 1)) .skip)))⟩
def fd14 : Fd := ⟨"_law_lot", 2, false, ["hand", "number", "hour"], [], (.sq (.ret (.c1 .tuple (.cat (.lst (.cons (.k (.int 0)) .nil)) (.lc [2] (.nm 2) (.r2 (.k (.int 1)) (.v 1)) (.cmp .eq (.fn 10 (.cons (.v 0) (.cons (.k (.int 3)) .nil))) (.k (.int 0))) (.v 2))))) .skip)⟩
def fd15 : Fd := ⟨"_law_sums", 3, false, ["number", "one", "other", "found", "a", "b"], [3], (.sq (.aso 3 (.rep (.lst (.cons (.k (.int 0)) .nil)) (.v 0))) (.sq (.for_ (.seq (.v 1)) (.nm 4) (.sq (.for_ (.seq (.v 2)) (.nm 5) (.sq (.augS true 3 (.bin .mod (.c1 .int (.bin .add (.v 4) (.v 5))) (.v 0)) (.k (.int 1))) .skip)) .skip)) (.sq (.ret (.m 3)) .skip)))⟩
def fd16 : Fd := ⟨"_law_partners", 2, false, ["number", "lot", "found", "waiting", "here", "told", "hour"], [3, 2], (.sq (.parO 2 3 (.lst .nil) (.lst (.cons (.tup (.cons (.k (.int 0)) .nil)) .nil))) (.sq (.wh 5000 (.cmp .gt (.c1 .len (.b 3)) (.k (.int 0))) (.sq (.asg (.nm 4) (.pop 3)) (.sq (.asg (.nm 5) (.fn 15 (.cons (.v 0) (.cons (.v 1) (.cons (.v 4) .nil))))) (.sq (.ifs (.cmp .eq (.c1 .max (.v 5)) (.k (.int 1))) (.sq (.ifs (.cmp .eq (.c1 .min (.v 5)) (.k (.int 1))) (.sq (.app 2 (.c1 .tuple (.sorted (.v 4)))) .skip) (.sq (.ext 3 (.lc [6] (.nm 6) (.r2 (.bin .add (.ix (.v 4) (.neg (.k (.int 1)))) (.k (.int 1))) (.v 0)) .yes (.bin .add (.v 4) (.tup (.cons (.v 6) .nil))))) .skip)) .skip) .skip) .skip)))) (.sq (.ret (.sorted (.b 2))) .skip)))⟩
def FL : List Fd := [fd0, fd1, fd2, fd3, fd4, fd5, fd6, fd7, fd8, fd9, fd10, fd11, fd12, fd13, fd14, fd15, fd16]
def consL : List Str := ["MOST_ROUND", "MOST_STEPS"]
theorem c0 : chk (gmOf FL consL fd0) fd0.body (defScope (topS 5)) (fun _ => true) (.b false (defBody (topS 5))) = true := by decide +kernel
theorem c1 : chk (gmOf FL consL fd1) fd1.body (defScope (topS 6)) (fun _ => true) (.b false (defBody (topS 6))) = true := by decide +kernel
theorem c2 : chk (gmOf FL consL fd2) fd2.body (defScope (topS 10)) (fun _ => true) (.b false (defBody (topS 10))) = true := by decide +kernel
theorem c3 : chk (gmOf FL consL fd3) fd3.body (defScope (topS 11)) (fun _ => true) (.b false (defBody (topS 11))) = true := by decide +kernel
theorem c4 : chk (gmOf FL consL fd4) fd4.body (defScope (topS 12)) (fun _ => true) (.b false (defBody (topS 12))) = true := by decide +kernel
theorem c5 : chk (gmOf FL consL fd5) fd5.body (defScope (topS 13)) (fun _ => true) (.b false (defBody (topS 13))) = true := by decide +kernel
theorem c6 : chk (gmOf FL consL fd6) fd6.body (defScope (topS 14)) (fun _ => true) (.b false (defBody (topS 14))) = true := by decide +kernel
theorem c7 : chk (gmOf FL consL fd7) fd7.body (defScope (topS 15)) (fun _ => true) (.b false (defBody (topS 15))) = true := by decide +kernel
theorem c8 : chk (gmOf FL consL fd8) fd8.body (defScope (topS 16)) (fun _ => true) (.b false (defBody (topS 16))) = true := by decide +kernel
theorem c9 : chk (gmOf FL consL fd9) fd9.body (defScope (topS 17)) (fun _ => true) (.b false (defBody (topS 17))) = true := by decide +kernel
theorem c11 : chk (gmOf FL consL fd11) fd11.body (defScope (topS 21)) (fun _ => true) (.b false (defBody (topS 21))) = true := by decide +kernel
theorem c12 : chk (gmOf FL consL fd12) fd12.body (defScope (topS 22)) (fun _ => true) (.b false (defBody (topS 22))) = true := by decide +kernel
theorem c13 : chk (gmOf FL consL fd13) fd13.body (defScope (topS 23)) (fun _ => true) (.b false (defBody (topS 23))) = true := by decide +kernel
theorem c14 : chk (gmOf FL consL fd14) fd14.body (defScope (topS 24)) (fun _ => true) (.b false (defBody (topS 24))) = true := by decide +kernel
theorem c15 : chk (gmOf FL consL fd15) fd15.body (defScope (topS 25)) (fun _ => true) (.b false (defBody (topS 25))) = true := by decide +kernel
theorem c16 : chk (gmOf FL consL fd16) fd16.body (defScope (topS 26)) (fun _ => true) (.b false (defBody (topS 26))) = true := by decide +kernel
def κL : Nat → D
  | 0 => .int 48
  | 1 => .int 50000
  | _ => .non
def prL (j : Nat) : Option (List D → R D) := match j with
  | 10 => some phiDraw
  | _ => none
noncomputable section
def nn0 : MS := (sSqK (sRetP (pAndE (p1 (oIsi [.int]) g0) (pNotE (p1 (oIsi [.bool]) g0)))) sSkip)
def F0 : List D → R D := runK false 1 nn0
theorem fm0 (φ : Nat → List D → R D)  : runB φ κL fd0 = F0 := by
  funext ds
  unfold F0
  rw [runK_eq]
  unfold nn0
  simp only [q_1, q_andE, q_notE, q_retP, q_sq, q_v G0]
  kernel_rfl
theorem fe0 (n : Nat) (h : 1 ≤ n) : callF FL κL prL n 0 = F0 := by
  cases n with
  | zero => omega
  | succ n => exact fm0 (callF FL κL prL n) 
def nn1 : MS := (sSqK (sRetK (mAndK (mCallP F0 (pCons g0 pNil)) (liE (pChain (iop .le) (iop .le) g1 g0 g2)))) sSkip)
def F1 : List D → R D := runK false 3 nn1
theorem fm1 (φ : Nat → List D → R D) (h0 : φ 0 = F0) : runB φ κL fd1 = F1 := by
  funext ds
  unfold F1
  rw [runK_eq]
  unfold nn1
  simp only [q_callP, q_chain, q_cons, q_mAnd, q_nil, q_retK, q_sq, q_v G0, q_v G1, q_v G2, ← h0]
  kernel_rfl
theorem fe1 (n : Nat) (h : 2 ≤ n) : callF FL κL prL n 1 = F1 := by
  cases n with
  | zero => omega
  | succ n => exact fm1 (callF FL κL prL n) (fe0 n (by omega))
def nn2 : MS := (sSqK (sIfK (tNotK (tValK (mCallP F1 (pCons g0 (pCons (pK (.int 1)) (pCons (pK (.int 48)) pNil)))))) (sSqK sNev sSkip) sSkip) sSkip)
def F2 : List D → R D := runK false 1 nn2
theorem fm2 (φ : Nat → List D → R D) (h1 : φ 1 = F1) : runB φ κL fd2 = F2 := by
  funext ds
  unfold F2
  rw [runK_eq]
  unfold nn2
  simp only [q_callP, q_cons, q_ifK, q_k, q_nil, q_sq, q_tNot, q_tVal, q_v G0, ← h1]
  kernel_rfl
theorem fe2 (n : Nat) (h : 3 ≤ n) : callF FL κL prL n 2 = F2 := by
  cases n with
  | zero => omega
  | succ n => exact fm2 (callF FL κL prL n) (fe1 n (by omega))
def nn3 : MS := (sSqK (sDrpK (mCallP F2 (pCons g0 pNil))) (sSqK (sIfK (tOrK (liT (pNotT (pT (p1 (oIsi [.tup]) g1)))) (tOrK (liT (pT (p2 (oEqFK id) g1 (pTup pNil)))) (tNotK (tValK (m1K oAllK (mLcK (liI (pSeq g1)) (aNm s2) (fun st => s2 none (id st)) (liT pYes) (mCallP F1 (pCons g2 (pCons (pK (.int 0)) (pCons (p2 oSubK g0 (pK (.int 1))) pNil)))))))))) (sSqK (sRetP (pK (.bl false))) sSkip) sSkip) (sSqK (sRetP (p1 oAllK (pLc (pZip g1 (pSl false g1 (pPart (pK (.int 1))) pNo)) (aTp (aCons (aNm s2) (aCons (aNm s3) aNil))) (fun st => s2 none ((fun st => s3 none (id st)) st)) pYes (p2 oLtK g2 g3)))) sSkip)))
def F3 : List D → R D := runK false 4 nn3
theorem fm3 (φ : Nat → List D → R D) (h1 : φ 1 = F1) (h2 : φ 2 = F2) : runB φ κL fd3 = F3 := by
  funext ds
  unfold F3
  rw [runK_eq]
  unfold nn3
  simp only [oAllK_eq, oEqFK_eq, oLtK_eq, oSubK_eq, q_1, q_2, q_T, q_callP, q_cons, q_drp, q_ifK, q_k, q_lc (PtI.tp (PlI.cons (PtI.nm S2) (PlI.cons (PtI.nm S3) PlI.nil))) (WI.cons S2 (WI.cons S3 WI.nil)), q_lcK (PtI.nm S2) (WI.cons S2 WI.nil), q_m1, q_nil, q_no, q_notT, q_part, q_retP, q_seq, q_sl, q_sq, q_tNot, q_tOr, q_tVal, q_tup, q_v G0, q_v G1, q_v G2, q_v G3, q_yes, q_zip, ← h1, ← h2]
  kernel_rfl
theorem fe3 (n : Nat) (h : 4 ≤ n) : callF FL κL prL n 3 = F3 := by
  cases n with
  | zero => omega
  | succ n => exact fm3 (callF FL κL prL n) (fe1 n (by omega)) (fe2 n (by omega))
def nn4 : MS := (sSqK (sDrpK (mCallP F2 (pCons g0 pNil))) (sSqK (sIfK (tNotK (tValK (mCallP F3 (pCons g0 (pCons g1 pNil))))) (sSqK sNev sSkip) sSkip) sSkip))
def F4 : List D → R D := runK false 2 nn4
theorem fm4 (φ : Nat → List D → R D) (h2 : φ 2 = F2) (h3 : φ 3 = F3) : runB φ κL fd4 = F4 := by
  funext ds
  unfold F4
  rw [runK_eq]
  unfold nn4
  simp only [q_callP, q_cons, q_drp, q_ifK, q_nil, q_sq, q_tNot, q_tVal, q_v G0, q_v G1, ← h2, ← h3]
  kernel_rfl
theorem fe4 (n : Nat) (h : 5 ≤ n) : callF FL κL prL n 4 = F4 := by
  cases n with
  | zero => omega
  | succ n => exact fm4 (callF FL κL prL n) (fe2 n (by omega)) (fe3 n (by omega))
def nn5 : MS := (sSqK (sDrpK (mCallP F4 (pCons g0 (pCons g1 pNil)))) (sSqK (sDrpK (mCallP F4 (pCons g0 (pCons g2 pNil)))) (sSqK (sAoP s3 (p2 oRepLK (pLst (pCons (pK (.int 0)) pNil)) g0)) (sSqK (sForP (pSeq g1) (aNm s4) (sSqK (sForP (pSeq g2) (aNm s5) (sSqK (sAugSP (fun i j => i + j) g3 s3 (p2 oModK (p1 oInt (p2 oAddK g4 g5)) g0) (pK (.int 1))) sSkip)) sSkip)) (sSqK (sRetP (p1 oTuple g3)) sSkip)))))
def F5 : List D → R D := runK false 6 nn5
theorem fm5 (φ : Nat → List D → R D) (h4 : φ 4 = F4) : runB φ κL fd5 = F5 := by
  funext ds
  unfold F5
  rw [runK_eq]
  unfold nn5
  simp only [oAddK_eq, oModK_eq, oRepLK_eq, q_1, q_2, q_aoP S3, q_augSP G3 S3, q_callP, q_cons, q_drp, q_forP (PtI.nm S4), q_forP (PtI.nm S5), q_k, q_lst, q_nil, q_retP, q_seq, q_sq, q_v G0, q_v G1, q_v G2, q_v G3, q_v G4, q_v G5, ← h4]
  kernel_rfl
theorem fe5 (n : Nat) (h : 6 ≤ n) : callF FL κL prL n 5 = F5 := by
  cases n with
  | zero => omega
  | succ n => exact fm5 (callF FL κL prL n) (fe4 n (by omega))
def nn6 : MS := (sSqK (sRetK (m2K (oEqFK id) (mCallP F5 (pCons g0 (pCons g1 (pCons g2 pNil)))) (liE (p2 oMulK (pTup (pCons (pK (.int 1)) pNil)) g0)))) sSkip)
def F6 : List D → R D := runK false 3 nn6
theorem fm6 (φ : Nat → List D → R D) (h5 : φ 5 = F5) : runB φ κL fd6 = F6 := by
  funext ds
  unfold F6
  rw [runK_eq]
  unfold nn6
  simp only [oEqFK_eq, oMulK_eq, q_2, q_callP, q_cons, q_k, q_m2, q_nil, q_retK, q_sq, q_tup, q_v G0, q_v G1, q_v G2, ← h5]
  kernel_rfl
theorem fe6 (n : Nat) (h : 7 ≤ n) : callF FL κL prL n 6 = F6 := by
  cases n with
  | zero => omega
  | succ n => exact fm6 (callF FL κL prL n) (fe5 n (by omega))
def nn7 : MS := (sSqK (sDrpK (mCallP F4 (pCons g0 (pCons g1 pNil)))) (sSqK (sIfP (pT (p2 (oEqFK (fun b => !b)) (p2 oModK (p1 oInt g0) (p1 oLenK g1)) (pK (.int 0)))) (sSqK (sRetP (pLst pNil)) sSkip) sSkip) (sSqK (sPar3K s2 s3 s4 (liE (pLst pNil)) (liE (pLst (pCons (pTup (pCons (pTup (pCons (pK (.int 0)) pNil)) (pCons (p1 oTuple (p1 oSortK (pLc (pSeq g1) (aNm s8) (fun st => s8 none (id st)) pYes (p2 oModK (p1 oInt g8) g0)))) pNil))) pNil))) (liE (pK (.int 0)))) (sSqK (whK (liT (pT (p2 (oEqFK (fun b => !b)) g3 (pLst pNil)))) (sSqK (sAsK (aTp (aCons (aNm s6) (aCons (aNm s7) aNil))) (mPopK g3 s3)) (sSqK (sAugP (fun i j => i + j) g4 s4 (pK (.int 1))) (sSqK (sIfP (pT (p2 oGtK g4 (pK (.int 50000)))) (sSqK sNev sSkip) sSkip) (sSqK (sAsP (aNm s5) (pLc (pR1 g0) (aNm s9) (fun st => s9 none (id st)) (pT (p2 (oInK (fun b => !b)) g9 g7)) g9)) (sSqK (sIfP (pT (p2 (oEqFK id) g5 (pLst pNil))) (sSqK (sAppC g2 s2 (p1 oTuple (p1 oSortK g6))) sSkip) (sSqK (sForP (pSeq g1) (aNm s8) (sSqK (sAsP (aNm s10) (p2 oModK (p1 oInt (p2 oSubK (p2 oIxK g5 (pK (.int 0))) g8)) g0)) (sSqK (sAsP (aNm s11) (pLc (pSeq g1) (aNm s12) (fun st => s12 none (id st)) pYes (p2 oModK (p1 oInt (p2 oAddK g10 g12)) g0))) (sSqK (sIfP (pNotT (pT (p1 oAnyK (pLc (pSeq g11) (aNm s9) (fun st => s9 none (id st)) pYes (p2 (oInK id) g9 g7))))) (sSqK (sAppC g3 s3 (pTup (pCons (p2 oAddK g6 (pTup (pCons g10 pNil))) (pCons (p1 oTuple (p1 oSortK (p2 oAddK g7 (p1 oTuple g11)))) pNil)))) sSkip) sSkip) sSkip)))) sSkip)) sSkip))))) 5000) (sSqK (sRetP (p1 oSSet2 g2)) sSkip)))))
def F7 : List D → R D := runK false 13 nn7
theorem fm7 (φ : Nat → List D → R D) (h4 : φ 4 = F4) : runB φ κL fd7 = F7 := by
  funext ds
  unfold F7
  rw [runK_eq]
  unfold nn7
  simp only [oAddK_eq, oAnyK_eq, oEqFK_eq, oGtK_eq, oInK_eq, oIxK_eq, oLenK_eq, oModK_eq, oSortK_eq, oSubK_eq, q_1, q_2, q_T, q_appC G2 S2, q_appC G3 S3, q_asK (PtI.tp (PlI.cons (PtI.nm S6) (PlI.cons (PtI.nm S7) PlI.nil))), q_asP (PtI.nm S10), q_asP (PtI.nm S11), q_asP (PtI.nm S5), q_augP G4 S4, q_callP, q_cons, q_drp, q_forP (PtI.nm S8), q_ifP, q_k, q_lc (PtI.nm S12) (WI.cons S12 WI.nil), q_lc (PtI.nm S8) (WI.cons S8 WI.nil), q_lc (PtI.nm S9) (WI.cons S9 WI.nil), q_lst, q_nil, q_notT, q_parOOS S2 S3 S4, q_pop G3 S3, q_r1, q_retP, q_seq, q_sq, q_tup, q_v G0, q_v G1, q_v G10, q_v G11, q_v G12, q_v G2, q_v G3, q_v G4, q_v G5, q_v G6, q_v G7, q_v G8, q_v G9, q_wh, q_yes, ← h4]
  kernel_rfl
theorem fe7 (n : Nat) (h : 6 ≤ n) : callF FL κL prL n 7 = F7 := by
  cases n with
  | zero => omega
  | succ n => exact fm7 (callF FL κL prL n) (fe4 n (by omega))
def nn8 : MS := (sSqK (sAsK (aNm s2) (mCallP F7 (pCons g0 (pCons g1 pNil)))) (sSqK (sRetP (pIf (pT (p2 (oEqFK (fun b => !b)) g2 (pLst pNil))) (p2 oIxK g2 (pK (.int 0))) (pK .non))) sSkip))
def F8 : List D → R D := runK false 3 nn8
theorem fm8 (φ : Nat → List D → R D) (h7 : φ 7 = F7) : runB φ κL fd8 = F8 := by
  funext ds
  unfold F8
  rw [runK_eq]
  unfold nn8
  simp only [oEqFK_eq, oIxK_eq, q_2, q_T, q_asK (PtI.nm S2), q_callP, q_cons, q_if, q_k, q_lst, q_nil, q_retP, q_sq, q_v G0, q_v G1, q_v G2, ← h7]
  kernel_rfl
theorem fe8 (n : Nat) (h : 7 ≤ n) : callF FL κL prL n 8 = F8 := by
  cases n with
  | zero => omega
  | succ n => exact fm8 (callF FL κL prL n) (fe7 n (by omega))
def nn9 : MS := (sSqK (sDrpK (mCallP F4 (pCons g0 (pCons g1 pNil)))) (sSqK (sAoP s2 (pLst pNil)) (sSqK (sForP (pR1 g0) (aNm s3) (sSqK (sIfP (pT (p2 (oEqFK id) (p1 oSortK (pLc (pSeq g1) (aNm s4) (fun st => s4 none (id st)) pYes (p2 oModK (p1 oInt (p2 oAddK g4 g3)) g0))) (p1 oList g1))) (sSqK (sAppC g2 s2 g3) sSkip) sSkip) sSkip)) (sSqK (sRetP (p1 oTuple g2)) sSkip))))
def F9 : List D → R D := runK false 5 nn9
theorem fm9 (φ : Nat → List D → R D) (h4 : φ 4 = F4) : runB φ κL fd9 = F9 := by
  funext ds
  unfold F9
  rw [runK_eq]
  unfold nn9
  simp only [oAddK_eq, oEqFK_eq, oModK_eq, oSortK_eq, q_1, q_2, q_T, q_aoP S2, q_appC G2 S2, q_callP, q_cons, q_drp, q_forP (PtI.nm S3), q_ifP, q_lc (PtI.nm S4) (WI.cons S4 WI.nil), q_lst, q_nil, q_r1, q_retP, q_seq, q_sq, q_v G0, q_v G1, q_v G2, q_v G3, q_v G4, q_yes, ← h4]
  kernel_rfl
theorem fe9 (n : Nat) (h : 6 ≤ n) : callF FL κL prL n 9 = F9 := by
  cases n with
  | zero => omega
  | succ n => exact fm9 (callF FL κL prL n) (fe4 n (by omega))
def F10 : List D → R D := phiDraw
theorem fe10 (n : Nat) (h : 1 ≤ n) : callF FL κL prL n 10 = F10 := by
  cases n with
  | zero => omega
  | succ n => rfl
def nn11 : MS := (sSqK (sRetK (m2K oIxK (liE g1) (mCallP F10 (pCons g0 (pCons (p1 oLenK g1) pNil))))) sSkip)
def F11 : List D → R D := runK false 2 nn11
theorem fm11 (φ : Nat → List D → R D) (h10 : φ 10 = F10) : runB φ κL fd11 = F11 := by
  funext ds
  unfold F11
  rw [runK_eq]
  unfold nn11
  simp only [oIxK_eq, oLenK_eq, q_1, q_callP, q_cons, q_m2, q_nil, q_retK, q_sq, q_v G0, q_v G1, ← h10]
  kernel_rfl
theorem fe11 (n : Nat) (h : 2 ≤ n) : callF FL κL prL n 11 = F11 := by
  cases n with
  | zero => omega
  | succ n => exact fm11 (callF FL κL prL n) (fe10 n (by omega))
def nn12 : MS := (sSqK (sIfP (pNotT (pT (p1 (oIsi [.int]) g0))) (sSqK (sRetP (pK (.bl false))) sSkip) sSkip) (sSqK (sIfP (pT (p1 (oIsi [.bool]) g0)) (sSqK (sRetP (pK (.bl false))) sSkip) sSkip) (sSqK (sRetP (pChain (iop .le) (iop .le) g1 g0 g2)) sSkip)))
def F12 : List D → R D := runK false 3 nn12
theorem fm12 (φ : Nat → List D → R D)  : runB φ κL fd12 = F12 := by
  funext ds
  unfold F12
  rw [runK_eq]
  unfold nn12
  simp only [q_1, q_T, q_chain, q_ifP, q_k, q_notT, q_retP, q_sq, q_v G0, q_v G1, q_v G2]
  kernel_rfl
theorem fe12 (n : Nat) (h : 1 ≤ n) : callF FL κL prL n 12 = F12 := by
  cases n with
  | zero => omega
  | succ n => exact fm12 (callF FL κL prL n) 
def nn13 : MS := (sSqK (sAsK (aNm s1) (mCallP F11 (pCons g0 (pCons (pLst (pCons (pK .non) (pCons (pK (.int 0)) (pCons (pK (.str "a")) pNil)))) pNil)))) (sSqK (sForK (sR1 (m2K oAddK (liE (pK (.int 18))) (mCallP F10 (pCons g0 (pCons (pK (.int 18)) pNil))))) (aNm s2) (sSqK (sAsK (aNm s1) (mCallP F11 (pCons g0 (pCons (pLst (pCons (pTup (pCons g1 pNil)) (pCons (pLst (pCons g1 pNil)) (pCons (pDic (pK (.int 0)) g1) pNil)))) pNil)))) sSkip)) (sSqK (sRetP g1) sSkip)))
def F13 : List D → R D := runK false 3 nn13
theorem fm13 (φ : Nat → List D → R D) (h10 : φ 10 = F10) (h11 : φ 11 = F11) : runB φ κL fd13 = F13 := by
  funext ds
  unfold F13
  rw [runK_eq]
  unfold nn13
  simp only [oAddK_eq, q_asK (PtI.nm S1), q_callP, q_cons, q_dic, q_forK (PtI.nm S2), q_k, q_lst, q_m2, q_nil, q_retP, q_sq, q_tup, q_v G0, q_v G1, ← h10, ← h11]
  kernel_rfl
theorem fe13 (n : Nat) (h : 3 ≤ n) : callF FL κL prL n 13 = F13 := by
  cases n with
  | zero => omega
  | succ n => exact fm13 (callF FL κL prL n) (fe10 n (by omega)) (fe11 n (by omega))
def nn14 : MS := (sSqK (sRetK (m1K oTuple (m2K oCatL (liE (pLst (pCons (pK (.int 0)) pNil))) (mLcK (liI (pR2 (pK (.int 1)) g1)) (aNm s2) (fun st => s2 none (id st)) (tValK (m2K (oEqFK id) (mCallP F10 (pCons g0 (pCons (pK (.int 3)) pNil))) (liE (pK (.int 0))))) (liE g2))))) sSkip)
def F14 : List D → R D := runK false 3 nn14
theorem fm14 (φ : Nat → List D → R D) (h10 : φ 10 = F10) : runB φ κL fd14 = F14 := by
  funext ds
  unfold F14
  rw [runK_eq]
  unfold nn14
  simp only [oEqFK_eq, q_callP, q_cons, q_k, q_lcK (PtI.nm S2) (WI.cons S2 WI.nil), q_lst, q_m1, q_m2, q_nil, q_r2, q_retK, q_sq, q_tVal, q_v G0, q_v G1, q_v G2, ← h10]
  kernel_rfl
theorem fe14 (n : Nat) (h : 2 ≤ n) : callF FL κL prL n 14 = F14 := by
  cases n with
  | zero => omega
  | succ n => exact fm14 (callF FL κL prL n) (fe10 n (by omega))
def nn15 : MS := (sSqK (sAoP s3 (p2 oRepLK (pLst (pCons (pK (.int 0)) pNil)) g0)) (sSqK (sForP (pSeq g1) (aNm s4) (sSqK (sForP (pSeq g2) (aNm s5) (sSqK (sAugSP (fun i j => i + j) g3 s3 (p2 oModK (p1 oInt (p2 oAddK g4 g5)) g0) (pK (.int 1))) sSkip)) sSkip)) (sSqK (sRetK (mMK g3 s3)) sSkip)))
def F15 : List D → R D := runK false 6 nn15
theorem fm15 (φ : Nat → List D → R D)  : runB φ κL fd15 = F15 := by
  funext ds
  unfold F15
  rw [runK_eq]
  unfold nn15
  simp only [oAddK_eq, oModK_eq, oRepLK_eq, q_1, q_2, q_aoP S3, q_augSP G3 S3, q_cons, q_forP (PtI.nm S4), q_forP (PtI.nm S5), q_k, q_lst, q_mm G3 S3, q_nil, q_retK, q_seq, q_sq, q_v G0, q_v G1, q_v G2, q_v G4, q_v G5]
  kernel_rfl
theorem fe15 (n : Nat) (h : 1 ≤ n) : callF FL κL prL n 15 = F15 := by
  cases n with
  | zero => omega
  | succ n => exact fm15 (callF FL κL prL n) 
def nn16 : MS := (sSqK (sPar2K s2 s3 (liE (pLst pNil)) (liE (pLst (pCons (pTup (pCons (pK (.int 0)) pNil)) pNil)))) (sSqK (whK (liT (pT (p2 oGtK (p1 oLenK g3) (pK (.int 0))))) (sSqK (sAsK (aNm s4) (mPopK g3 s3)) (sSqK (sAsK (aNm s5) (mCallP F15 (pCons g0 (pCons g1 (pCons g4 pNil))))) (sSqK (sIfP (pT (p2 (oEqFK id) (p1 oMaxLK g5) (pK (.int 1)))) (sSqK (sIfP (pT (p2 (oEqFK id) (p1 oMinLK g5) (pK (.int 1)))) (sSqK (sAppC g2 s2 (p1 oTuple (p1 oSortK g4))) sSkip) (sSqK (sExtKC g3 s3 (liE (pLc (pR2 (p2 oAddK (p2 oIxK g4 (p1 oNeg (pK (.int 1)))) (pK (.int 1))) g0) (aNm s6) (fun st => s6 none (id st)) pYes (p2 oAddK g4 (pTup (pCons g6 pNil)))))) sSkip)) sSkip) sSkip) sSkip))) 5000) (sSqK (sRetP (p1 oSortK g2)) sSkip)))
def F16 : List D → R D := runK false 7 nn16
theorem fm16 (φ : Nat → List D → R D) (h15 : φ 15 = F15) : runB φ κL fd16 = F16 := by
  funext ds
  unfold F16
  rw [runK_eq]
  unfold nn16
  simp only [oAddK_eq, oEqFK_eq, oGtK_eq, oIxK_eq, oLenK_eq, oMaxLK_eq, oMinLK_eq, oSortK_eq, q_1, q_2, q_T, q_appC G2 S2, q_asK (PtI.nm S4), q_asK (PtI.nm S5), q_callP, q_cons, q_extKC G3 S3, q_ifP, q_k, q_lc (PtI.nm S6) (WI.cons S6 WI.nil), q_lst, q_nil, q_parO S2 S3, q_pop G3 S3, q_r2, q_retP, q_sq, q_tup, q_v G0, q_v G1, q_v G2, q_v G3, q_v G4, q_v G5, q_v G6, q_wh, q_yes, ← h15]
  kernel_rfl
theorem fe16 (n : Nat) (h : 2 ≤ n) : callF FL κL prL n 16 = F16 := by
  cases n with
  | zero => omega
  | succ n => exact fm16 (callF FL κL prL n) (fe15 n (by omega))
end
def lawC : C := (.sq (.ifs (.cmp .ne (.list (.fn 5 (.cons (.k (.int 4)) (.cons (.tup (.cons (.k (.int 0)) (.cons (.k (.int 1)) .nil))) (.cons (.tup (.cons (.k (.int 0)) (.cons (.k (.int 2)) .nil))) .nil))))) (.lst (.cons (.k (.int 1)) (.cons (.k (.int 1)) (.cons (.k (.int 1)) (.cons (.k (.int 1)) .nil)))))) (.sq (.ret (.k (.bl false))) .skip) .skip) (.sq (.ifs (.isB false (.fn 6 (.cons (.k (.int 4)) (.cons (.tup (.cons (.k (.int 0)) (.cons (.k (.int 1)) .nil))) (.cons (.tup (.cons (.k (.int 0)) (.cons (.k (.int 1)) .nil))) .nil)))) (.k (.bl false))) (.sq (.ret (.k (.bl false))) .skip) .skip) (.sq (.ifs (.cmp .ne (.fn 8 (.cons (.k (.int 4)) (.cons (.tup (.cons (.k (.int 0)) (.cons (.k (.int 1)) .nil))) .nil))) (.tup (.cons (.k (.int 0)) (.cons (.k (.int 2)) .nil)))) (.sq (.ret (.k (.bl false))) .skip) .skip) (.fgt [1] (.sq (.for_ (.r1 (.k (.int 5))) (.nm 2) (.fgt [1] (.sq (.asg (.nm 3) (.bin .add (.k (.int 1)) (.fn 10 (.cons (.v 1) (.cons (.k (.int 12)) .nil))))) (.sq (.asg (.tp (.cons (.nm 12) (.cons (.nm 13) .nil))) (.tup (.cons (.fn 14 (.cons (.v 1) (.cons (.v 3) .nil))) (.cons (.fn 14 (.cons (.v 1) (.cons (.v 3) .nil))) .nil)))) (.sq (.asg (.nm 4) (.fn 15 (.cons (.v 3) (.cons (.v 12) (.cons (.v 13) .nil))))) (.sq (.ifs (.cmp .ne (.list (.fn 5 (.cons (.v 3) (.cons (.v 12) (.cons (.v 13) .nil))))) (.v 4)) (.sq (.ret (.k (.bl false))) .skip) .skip) (.sq (.ifs (.cmp .ne (.fn 6 (.cons (.v 3) (.cons (.v 12) (.cons (.v 13) .nil)))) (.cmp .eq (.v 4) (.rep (.lst (.cons (.k (.int 1)) .nil)) (.v 3)))) (.sq (.ret (.k (.bl false))) .skip) .skip) (.sq (.asg (.nm 5) (.fn 16 (.cons (.v 3) (.cons (.v 12) .nil)))) (.sq (.ifs (.cmp .ne (.list (.fn 7 (.cons (.v 3) (.cons (.v 12) .nil)))) (.v 5)) (.sq (.ret (.k (.bl false))) .skip) .skip) (.sq (.ifs (.cmp .ne (.fn 8 (.cons (.v 3) (.cons (.v 12) .nil))) (.ifx (.cmp .gt (.c1 .len (.v 5)) (.k (.int 0))) (.ix (.v 5) (.k (.int 0))) (.k .non))) (.sq (.ret (.k (.bl false))) .skip) .skip) (.sq (.ifs (.not (.c1 .all (.lc [16] (.nm 16) (.seq (.v 5)) .yes (.and (.fn 6 (.cons (.v 3) (.cons (.v 16) (.cons (.v 12) .nil)))) (.one (.cmp .eq (.bin .mul (.c1 .len (.v 16)) (.c1 .len (.v 12))) (.v 3))))))) (.sq (.ret (.k (.bl false))) .skip) .skip) (.sq (.asg (.nm 6) (.lc [7] (.nm 7) (.r1 (.v 3)) (.cmp .eq (.sorted (.lc [17] (.nm 17) (.seq (.v 12)) .yes (.bin .mod (.c1 .int (.bin .add (.v 17) (.v 7))) (.v 3)))) (.list (.v 12))) (.v 7))) (.sq (.ifs (.cmp .ne (.list (.fn 9 (.cons (.v 3) (.cons (.v 12) .nil)))) (.v 6)) (.sq (.ret (.k (.bl false))) .skip) .skip) (.sq (.asg (.nm 7) (.fn 10 (.cons (.v 1) (.cons (.v 3) .nil)))) (.sq (.asg (.nm 8) (.c1 .tuple (.sorted (.lc [17] (.nm 17) (.seq (.v 12)) .yes (.bin .mod (.c1 .int (.bin .add (.v 17) (.v 7))) (.v 3)))))) (.sq (.ifs (.cmp .ne (.list (.fn 9 (.cons (.v 3) (.cons (.v 8) .nil)))) (.v 6)) (.sq (.ret (.k (.bl false))) .skip) .skip) (.sq (.ifs (.not (.c1 .all (.lc [16] (.nm 16) (.seq (.v 5)) .yes (.fn 6 (.cons (.v 3) (.cons (.v 8) (.cons (.v 16) .nil))))))) (.sq (.ret (.k (.bl false))) .skip) .skip) (.sq (.asg (.nm 9) (.fn 11 (.cons (.v 1) (.cons (.lst (.cons (.v 3) (.cons (.neg (.k (.int 1))) (.cons (.k (.bl true)) (.cons (.k .non) (.cons (.k (.str "0")) .nil)))))) .nil)))) (.sq (.asg (.nm 10) (.lst (.cons (.v 12) (.cons (.ifx (.cmp .gt (.c1 .len (.v 12)) (.k (.int 1))) (.rev false (.v 12)) (.tup .nil)) (.cons (.list (.v 12)) (.cons (.tup .nil) (.cons (.bin .add (.v 12) (.tup (.cons (.v 9) .nil))) (.cons (.tup (.cons (.v 9) .nil)) (.cons (.bin .add (.v 12) (.sl false (.v 12) .np (.pt (.k (.int 1))))) (.cons (.k .non) .nil)))))))))) (.sq (.for_ (.r1 (.k (.int 4))) (.nm 11) (.sq (.asg (.nm 14) (.fn 11 (.cons (.v 1) (.cons (.cat (.v 10) (.lst (.cons (.fn 13 (.cons (.v 1) .nil)) (.cons (.v 8) .nil)))) .nil)))) (.sq (.asg (.nm 15) (.and (.isi [.tup] (.v 14)) (.and (.cmp .gt (.c1 .len (.v 14)) (.k (.int 0))) (.one (.c1 .all (.lc [17] (.nm 17) (.seq (.v 14)) .yes (.fn 12 (.cons (.v 17) (.cons (.k (.int 0)) (.cons (.bin .sub (.v 3) (.k (.int 1))) .nil)))))))))) (.sq (.ifs (.cmp .ne (.fn 3 (.cons (.v 3) (.cons (.v 14) .nil))) (.and (.v 15) (.one (.cmp .eq (.list (.v 14)) (.sset (.v 14)))))) (.sq (.ret (.k (.bl false))) .skip) .skip) .skip)))) .skip)))))))))))))))))))) (.fgt [1] (.sq (.ret (.k (.bl true))) .skip)))))))
def lawG : Gm := ⟨["script", "hand", "turn", "number", "told", "due", "moves", "by", "moved", "sign", "things", "again", "one", "other", "thing", "is_so", "lot", "hour"], fun i => [].contains i, consL, FL.map fun g => (g.nm, g.ar, g.ro)⟩
theorem cL : chk lawG lawC (defScope (topS 27)) (fun _ => true) (.b false (defBody (topS 27)).tail) = true := by decide +kernel
noncomputable def kPre_2 : MS := sSqK (sIfK (tValK (m2K (oEqFK (fun b => !b)) (mCallP F8 (pCons (pK (.int 4)) (pCons (pTup (pCons (pK (.int 0)) (pCons (pK (.int 1)) pNil))) pNil))) (liE (pTup (pCons (pK (.int 0)) (pCons (pK (.int 2)) pNil)))))) (sSqK (sRetP (pK (.bl false))) sSkip) sSkip) sSkip
noncomputable def kPre_1 : MS := sSqK (sIfK (tValK (m2K (oIsB (fun b => !b)) (mCallP F6 (pCons (pK (.int 4)) (pCons (pTup (pCons (pK (.int 0)) (pCons (pK (.int 1)) pNil))) (pCons (pTup (pCons (pK (.int 0)) (pCons (pK (.int 1)) pNil))) pNil)))) (liE (pK (.bl false))))) (sSqK (sRetP (pK (.bl false))) sSkip) sSkip) kPre_2
noncomputable def kPre : MS := sSqK (sIfK (tValK (m2K (oEqFK (fun b => !b)) (m1K oList (mCallP F5 (pCons (pK (.int 4)) (pCons (pTup (pCons (pK (.int 0)) (pCons (pK (.int 1)) pNil))) (pCons (pTup (pCons (pK (.int 0)) (pCons (pK (.int 2)) pNil))) pNil))))) (liE (pLst (pCons (pK (.int 1)) (pCons (pK (.int 1)) (pCons (pK (.int 1)) (pCons (pK (.int 1)) pNil)))))))) (sSqK (sRetP (pK (.bl false))) sSkip) sSkip) kPre_1
noncomputable def kE : MS := sSqK (sRetP (pK (.bl true))) sSkip
noncomputable def kB_17 : MS := sSqK (sForP (pR1 (pK (.int 4))) (aNm s11) (sSqK (sAsK (aNm s14) (mCallK F11 (lConsK (liE g1) (lConsK (m2K oCatL (liE g10) (mLstK (lConsK (mCallP F13 (pCons g1 pNil)) (liL (pCons g8 pNil))))) (liL pNil))))) (sSqK (sAsK (aNm s15) (mAndK (liE (p1 (oIsi [.tup]) g14)) (mAndK (liE (p2 oGtK (p1 oLenK g14) (pK (.int 0)))) (m1K oAllK (mLcK (liI (pSeq g14)) (aNm s17) (fun st => s17 none (id st)) (liT pYes) (mCallP F12 (pCons g17 (pCons (pK (.int 0)) (pCons (p2 oSubK g3 (pK (.int 1))) pNil))))))))) (sSqK (sIfK (tValK (m2K (oEqFK (fun b => !b)) (mCallP F3 (pCons g3 (pCons g14 pNil))) (liE (pAndE g15 (p2 (oEqFK id) (p1 oList g14) (p1 oSSet2 g14)))))) (sSqK (sRetP (pK (.bl false))) sSkip) sSkip) sSkip)))) sSkip
noncomputable def kB_16 : MS := sSqK (sAsP (aNm s10) (pLst (pCons g12 (pCons (pIf (pT (p2 oGtK (p1 oLenK g12) (pK (.int 1)))) (p1 (oRev false) g12) (pTup pNil)) (pCons (p1 oList g12) (pCons (pTup pNil) (pCons (p2 oAddK g12 (pTup (pCons g9 pNil))) (pCons (pTup (pCons g9 pNil)) (pCons (p2 oAddK g12 (pSl false g12 pNo (pPart (pK (.int 1))))) (pCons (pK .non) pNil)))))))))) kB_17
noncomputable def kB_15 : MS := sSqK (sAsK (aNm s9) (mCallP F11 (pCons g1 (pCons (pLst (pCons g3 (pCons (p1 oNeg (pK (.int 1))) (pCons (pK (.bl true)) (pCons (pK .non) (pCons (pK (.str "0")) pNil)))))) pNil)))) kB_16
noncomputable def kB_14 : MS := sSqK (sIfK (tNotK (tValK (m1K oAllK (mLcK (liI (pSeq g5)) (aNm s16) (fun st => s16 none (id st)) (liT pYes) (mCallP F6 (pCons g3 (pCons g8 (pCons g16 pNil)))))))) (sSqK (sRetP (pK (.bl false))) sSkip) sSkip) kB_15
noncomputable def kB_13 : MS := sSqK (sIfK (tValK (m2K (oEqFK (fun b => !b)) (m1K oList (mCallP F9 (pCons g3 (pCons g8 pNil)))) (liE g6))) (sSqK (sRetP (pK (.bl false))) sSkip) sSkip) kB_14
noncomputable def kB_12 : MS := sSqK (sAsP (aNm s8) (p1 oTuple (p1 oSortK (pLc (pSeq g12) (aNm s17) (fun st => s17 none (id st)) pYes (p2 oModK (p1 oInt (p2 oAddK g17 g7)) g3))))) kB_13
noncomputable def kB_11 : MS := sSqK (sAsK (aNm s7) (mCallP F10 (pCons g1 (pCons g3 pNil)))) kB_12
noncomputable def kB_10 : MS := sSqK (sIfK (tValK (m2K (oEqFK (fun b => !b)) (m1K oList (mCallP F9 (pCons g3 (pCons g12 pNil)))) (liE g6))) (sSqK (sRetP (pK (.bl false))) sSkip) sSkip) kB_11
noncomputable def kB_9 : MS := sSqK (sAsP (aNm s6) (pLc (pR1 g3) (aNm s7) (fun st => s7 none (id st)) (pT (p2 (oEqFK id) (p1 oSortK (pLc (pSeq g12) (aNm s17) (fun st => s17 none (id st)) pYes (p2 oModK (p1 oInt (p2 oAddK g17 g7)) g3))) (p1 oList g12))) g7)) kB_10
noncomputable def kB_8 : MS := sSqK (sIfK (tNotK (tValK (m1K oAllK (mLcK (liI (pSeq g5)) (aNm s16) (fun st => s16 none (id st)) (liT pYes) (mAndK (mCallP F6 (pCons g3 (pCons g16 (pCons g12 pNil)))) (liE (p2 (oEqFK id) (p2 oMulK (p1 oLenK g16) (p1 oLenK g12)) g3))))))) (sSqK (sRetP (pK (.bl false))) sSkip) sSkip) kB_9
noncomputable def kB_7 : MS := sSqK (sIfK (tValK (m2K (oEqFK (fun b => !b)) (mCallP F8 (pCons g3 (pCons g12 pNil))) (liE (pIf (pT (p2 oGtK (p1 oLenK g5) (pK (.int 0)))) (p2 oIxK g5 (pK (.int 0))) (pK .non))))) (sSqK (sRetP (pK (.bl false))) sSkip) sSkip) kB_8
noncomputable def kB_6 : MS := sSqK (sIfK (tValK (m2K (oEqFK (fun b => !b)) (m1K oList (mCallP F7 (pCons g3 (pCons g12 pNil)))) (liE g5))) (sSqK (sRetP (pK (.bl false))) sSkip) sSkip) kB_7
noncomputable def kB_5 : MS := sSqK (sAsK (aNm s5) (mCallP F16 (pCons g3 (pCons g12 pNil)))) kB_6
noncomputable def kB_4 : MS := sSqK (sIfK (tValK (m2K (oEqFK (fun b => !b)) (mCallP F6 (pCons g3 (pCons g12 (pCons g13 pNil)))) (liE (p2 (oEqFK id) g4 (p2 oRepLK (pLst (pCons (pK (.int 1)) pNil)) g3))))) (sSqK (sRetP (pK (.bl false))) sSkip) sSkip) kB_5
noncomputable def kB_3 : MS := sSqK (sIfK (tValK (m2K (oEqFK (fun b => !b)) (m1K oList (mCallP F5 (pCons g3 (pCons g12 (pCons g13 pNil))))) (liE g4))) (sSqK (sRetP (pK (.bl false))) sSkip) sSkip) kB_4
noncomputable def kB_2 : MS := sSqK (sAsK (aNm s4) (mCallP F15 (pCons g3 (pCons g12 (pCons g13 pNil))))) kB_3
noncomputable def kB_1 : MS := sSqK (sAsK (aTp (aCons (aNm s12) (aCons (aNm s13) aNil))) (mTupK (lConsK (mCallP F14 (pCons g1 (pCons g3 pNil))) (lConsK (mCallP F14 (pCons g1 (pCons g3 pNil))) (liL pNil))))) kB_2
noncomputable def kB : MS := sSqK (sAsK (aNm s3) (m2K oAddK (liE (pK (.int 1))) (mCallP F10 (pCons g1 (pCons (pK (.int 12)) pNil))))) kB_1
theorem eLaw (φ : Nat → List D → R D) (h3 : φ 3 = F3) (h5 : φ 5 = F5) (h6 : φ 6 = F6) (h7 : φ 7 = F7) (h8 : φ 8 = F8) (h9 : φ 9 = F9) (h10 : φ 10 = F10) (h11 : φ 11 = F11) (h12 : φ 12 = F12) (h13 : φ 13 = F13) (h14 : φ 14 = F14) (h15 : φ 15 = F15) (h16 : φ 16 = F16) : (den φ κL lawC).M = sSq kPre (sFgt [1] (sSq (sFor (sR1 (mK (.int 5))) (.nm 2) (sFgt [1] kB)) (sFgt [1] kE))) := by
  unfold kB kB_1 kB_2 kB_3 kB_4 kB_5 kB_6 kB_7 kB_8 kB_9 kB_10 kB_11 kB_12 kB_13 kB_14 kB_15 kB_16 kB_17 kE kPre kPre_1 kPre_2
  simp only [oAddK_eq, oAllK_eq, oEqFK_eq, oGtK_eq, oIxK_eq, oLenK_eq, oModK_eq, oMulK_eq, oRepLK_eq, oSortK_eq, oSubK_eq, q_1, q_2, q_T, q_andE, q_asK (PtI.nm S14), q_asK (PtI.nm S15), q_asK (PtI.nm S3), q_asK (PtI.nm S4), q_asK (PtI.nm S5), q_asK (PtI.nm S7), q_asK (PtI.nm S9), q_asK (PtI.tp (PlI.cons (PtI.nm S12) (PlI.cons (PtI.nm S13) PlI.nil))), q_asP (PtI.nm S10), q_asP (PtI.nm S6), q_asP (PtI.nm S8), q_call, q_callP, q_cons, q_forP (PtI.nm S11), q_if, q_ifK, q_k, q_lCons, q_lc (PtI.nm S17) (WI.cons S17 WI.nil), q_lc (PtI.nm S7) (WI.cons S7 WI.nil), q_lcK (PtI.nm S16) (WI.cons S16 WI.nil), q_lcK (PtI.nm S17) (WI.cons S17 WI.nil), q_lst, q_m1, q_m2, q_mAnd, q_mLst, q_mTup, q_nil, q_no, q_part, q_r1, q_retP, q_seq, q_sl, q_sq, q_tNot, q_tVal, q_tup, q_v G1, q_v G10, q_v G12, q_v G13, q_v G14, q_v G15, q_v G16, q_v G17, q_v G3, q_v G4, q_v G5, q_v G6, q_v G7, q_v G8, q_v G9, q_yes, ← h3, ← h5, ← h6, ← h7, ← h8, ← h9, ← h10, ← h11, ← h12, ← h13, ← h14, ← h15, ← h16, sq_assoc, sq_skip]
  kernel_rfl
end EV
set_option maxHeartbeats 0
/-! what the laws share: loops, sorting, the rules for calls -/
namespace EV
open PySem PySem.Spec PyProof.Rows L2 RZ
theorem forK_ok {A : AT} {b : MS} {I : AS → Prop} (ds : List D) (st : AS) (h : ∀ d ∈ ds, ∀ st, I st → ∃ st1, A d st = some st1 ∧ ∃ st2, b st1 = .ok (.nx st2) ∧ I st2) (hi : I st) : ∃ st2, forK A b ds st = .ok (.nx st2) ∧ I st2 :=
  forK_fold (α := Unit) (I := fun _ => I) (f := fun a _ => a) ds () st (fun d hd _ st hst => by
    obtain ⟨st1, h1, st2, h2, h3⟩ := h d hd st hst
    exact ⟨st1, h1, st2, .inl h2, h3⟩) hi
theorem enumK_get : ∀ (xs : List D) (k : Nat) (d : D), d ∈ enumK xs (k : Int) → ∃ (i : Nat) (x : D), xs[i]? = some x ∧ d = .tup [.int ((k + i : Nat) : Int), x]
  | [], k, d, h => nomatch h
  | x :: r, k, d, h => by
    have h : d ∈ fcI (k : Int) (fun i => D.tup [.int i, x] :: enumK r (i + 1)) := h
    rw [fcI_eq] at h
    rcases List.mem_cons.mp h with q | q
    · exact ⟨0, x, rfl, q⟩
    · rw [show (k : Int) + 1 = ((k + 1 : Nat) : Int) by omega] at q
      obtain ⟨i, y, h1, h2⟩ := enumK_get r (k + 1) d q
      exact ⟨i + 1, y, h1, by rw [h2]; congr 3; omega⟩
theorem map_get {α β : Type} {f : α → β} {l : List α} {i : Nat} {y : β} (h : (l.map f)[i]? = some y) : ∃ x, l[i]? = some x ∧ y = f x := by
  rw [List.getElem?_map] at h
  cases e : l[i]? with
  | none => rw [e] at h; cases h
  | some x => rw [e] at h; cases h; exact ⟨x, rfl, rfl⟩
/-- a part that is told right: four numbers from 0 to 200, wide and high -/
theorem heads_map {α : Type} (g : α → D) (t : α → List D) : ∀ l : List α, heads (l.map fun a => g a :: t a) = l.map g
  | [] => rfl
  | x :: r => by show g x :: heads (r.map fun a => g a :: t a) = _; rw [heads_map g t r]; rfl
theorem tails_map {α : Type} (g : α → D) (t : α → List D) : ∀ l : List α, tails (l.map fun a => g a :: t a) = l.map t
  | [] => rfl
  | x :: r => by show t x :: tails (r.map fun a => g a :: t a) = _; rw [tails_map g t r]; rfl
theorem heads_nil {α : Type} : ∀ l : List α, heads (l.map fun _ => []) = []
  | [] => rfl
  | x :: r => heads_nil r
theorem tails_nil {α : Type} : ∀ l : List α, tails (l.map fun _ => []) = []
  | [] => rfl
  | x :: r => tails_nil r
theorem cols_ok {α : Type} {f : List D → Bool} (hf : f [] = true) (l : List α) : ∀ (cs : List (α → D)) (m : Nat), cs.length + 2 ≤ m → (∀ g ∈ cs, f (l.map g) = true) → colsOk f m (l.map fun a => cs.map fun g => g a) = true
  | [], m, hm, _ => by
    obtain ⟨m, rfl⟩ : ∃ k, m = k + 2 := ⟨m - 2, by simp only [List.length_nil] at hm; omega⟩
    cases l with
    | nil => rfl
    | cons x r =>
      show (match f (heads ((x :: r).map fun _ => [])) with | true => colsOk f (m + 1) (tails ((x :: r).map fun _ => [])) | false => false) = true
      rw [heads_nil, tails_nil, hf]
      rfl
  | g :: cs, m, hm, h => by
    obtain ⟨m, rfl⟩ : ∃ k, m = k + 1 := ⟨m - 1, by rw [List.length_cons] at hm; omega⟩
    cases l with
    | nil => rfl
    | cons x r =>
      have e1 := heads_map g (fun a => cs.map fun g => g a) (x :: r)
      have e2 := tails_map g (fun a => cs.map fun g => g a) (x :: r)
      have := cols_ok hf (x :: r) cs m (by rw [List.length_cons] at hm; omega) fun g hg => h g (by simp [hg])
      show (match f (heads ((x :: r).map fun a => g a :: cs.map fun g => g a)) with | true => colsOk f m (tails ((x :: r).map fun a => g a :: cs.map fun g => g a)) | false => false) = true
      rw [e1, e2, h g (by simp)]
      exact this
theorem tups_map {α : Type} (t : α → List D) : ∀ l : List α, tups? (l.map fun a => D.tup (t a)) = some (l.map t)
  | [] => rfl
  | x :: r => by
    show (tups? (r.map fun a => D.tup (t a))).map (fun l => t x :: l) = _
    rw [tups_map t r]
    rfl
theorem homI {α : Type} (n : Nat) (f : α → Int) (l : List α) : homog (n + 1) (l.map fun a => D.int (f a)) = true := by
  cases l with
  | nil => rfl
  | cons x r =>
    show ((x :: r).map fun a => D.int (f a)).all isI = true
    rw [List.all_eq_true]
    intro d hd
    obtain ⟨a, _, rfl⟩ := List.mem_map.mp hd
    rfl
theorem homT {α : Type} (n : Nat) (l : List α) (cs : List (α → D)) (hc : cs.length ≤ 9) (h : ∀ g ∈ cs, homog (n + 1) (l.map g) = true) : homog (n + 2) (l.map fun a => D.tup (cs.map fun g => g a)) = true := by
  cases l with
  | nil => rfl
  | cons x r =>
    show (match tups? ((x :: r).map fun a => D.tup (cs.map fun g => g a)) with | some yss => colsOk (homog (n + 1)) 100000 yss | none => false) = true
    rw [tups_map (fun a => cs.map fun g => g a)]
    exact cols_ok rfl (x :: r) cs 100000 (by omega) h
abbrev gtD (a b : D) : Bool := ltf 60 b a
theorem sort_of {xs : List D} (h : homog 60 xs = true) (h2 : ∀ x ∈ xs, x ≠ .tup []) : sortOpK xs = some (.lst (sortR gtD xs)) := by
  rw [sortOpK_eq]
  unfold sortOp
  rw [h, Bool.true_and]
  split
  · rfl
  · rename_i e
    exfalso
    rw [List.all_eq_false] at e
    obtain ⟨x, hx, hn⟩ := e
    have := h2 x hx
    apply hn
    cases x with
    | tup ys =>
      cases ys with
      | nil => exact absurd rfl this
      | cons _ _ => rfl
    | _ => rfl
theorem sort_t (xs : List D) : oSortK (.tup xs) = sortOpK xs := rfl
theorem sort_l (xs : List D) : oSortK (.lst xs) = sortOpK xs := rfl
theorem ne_map {α : Type} {g : α → D} (c : List α) (h : ∀ a, g a ≠ .tup []) : ∀ x ∈ c.map g, x ≠ .tup [] := by
  intro x hx
  obtain ⟨a, _, rfl⟩ := List.mem_map.mp hx
  exact h a
theorem insR_map {α : Type} {g : α → D} {gt : α → α → Bool} (h : ∀ a b, gtD (g a) (g b) = gt a b) (a : α) : ∀ l : List α, insR gtD (g a) (l.map g) = (insR gt a l).map g
  | [] => rfl
  | x :: r => by
    show (match gtD (g a) (g x) with | true => g x :: insR gtD (g a) (r.map g) | false => g a :: g x :: r.map g) = (match gt a x with | true => x :: insR gt a r | false => a :: x :: r).map g
    rw [h, insR_map h a r]
    cases gt a x <;> rfl
theorem sortR_map {α : Type} {g : α → D} {gt : α → α → Bool} (h : ∀ a b, gtD (g a) (g b) = gt a b) : ∀ l : List α, sortR gtD (l.map g) = (sortR gt l).map g
  | [] => rfl
  | x :: r => by
    show insR gtD (g x) (sortR gtD (r.map g)) = (insR gt x (sortR gt r)).map g
    rw [sortR_map h r, insR_map h]
def upTo {α : Type} (gt : α → α → Bool) : List α → Prop
  | [] => True
  | x :: r => (∀ y, r.head? = some y → gt x y = false) ∧ upTo gt r
theorem insR_head {α : Type} {gt : α → α → Bool} {d : α} : ∀ {l : List α} {y : α}, (insR gt d l).head? = some y → y = d ∨ l.head? = some y
  | [], y, h => .inl (by cases h; rfl)
  | x :: r, y, h => by
    have h : (match gt d x with | true => x :: insR gt d r | false => d :: x :: r).head? = some y := h
    cases e : gt d x with
    | true => rw [e] at h; exact .inr h
    | false => rw [e] at h; cases h; exact .inl rfl
theorem insR_up {α : Type} {gt : α → α → Bool} (ha : ∀ a b, gt a b = true → gt b a = false) {d : α} : ∀ {l : List α}, upTo gt l → upTo gt (insR gt d l)
  | [], _ => ⟨fun y h => (nomatch h), trivial⟩
  | x :: r, h => by
    show upTo gt (match gt d x with | true => x :: insR gt d r | false => d :: x :: r)
    cases e : gt d x with
    | true =>
      refine ⟨fun y hy => ?_, insR_up ha h.2⟩
      rcases insR_head hy with rfl | q
      · exact ha _ _ e
      · exact h.1 y q
    | false => exact ⟨fun y hy => by cases hy; exact e, h⟩
theorem sortR_up {α : Type} {gt : α → α → Bool} (ha : ∀ a b, gt a b = true → gt b a = false) : ∀ l : List α, upTo gt (sortR gt l)
  | [] => trivial
  | x :: r => insR_up ha (sortR_up ha r)
theorem sortR_id {α : Type} {gt : α → α → Bool} : ∀ {l : List α}, upTo gt l → sortR gt l = l
  | [], _ => rfl
  | x :: r, h => by
    show insR gt x (sortR gt r) = _
    rw [sortR_id h.2]
    cases r with
    | nil => rfl
    | cons y r =>
      show (match gt x y with | true => y :: insR gt x r | false => x :: y :: r) = _
      rw [h.1 y rfl]
theorem eqs_refl {f : D → D → Bool} : ∀ {xs : List D}, (∀ x ∈ xs, f x x = true) → eqs f xs xs = true
  | [], _ => rfl
  | x :: r, h => by
    show (match f x x with | true => eqs f r r | false => false) = true
    rw [h x (by simp)]
    exact eqs_refl fun y hy => h y (by simp [hy])
theorem eqf_refl : ∀ {n : Nat} {d : D}, dok n d = true → eqf n d d = true
  | 0, _, h => nomatch h
  | n + 1, d, h => by
    cases d with
    | int i => exact decide_eq_true rfl
    | bl b => cases b <;> rfl
    | str s => show (s == s) = true; exact beq_self_eq_true s
    | non => rfl
    | tup xs => exact eqs_refl fun x hx => eqf_refl (List.all_eq_true.mp h x hx)
    | lst xs => exact eqs_refl fun x hx => eqf_refl (List.all_eq_true.mp h x hx)
    | _ => cases h
theorem eq_same {f : Bool → Bool} {d : D} (h : dok 60 d = true) : oEqFK f d d = some (.bl (f true)) := by
  rw [oEqFK_eq]
  have s : slowEq f d d = some (.bl (f true)) := by
    unfold slowEq
    have : isH d = false := by cases d <;> first | rfl | cases h
    rw [this, h, eqf_refl h]
    rfl
  cases d with
  | int i =>
    show some (D.bl (f (decide (i = i)))) = _
    rw [decide_eq_true rfl]
  | _ => exact s
theorem dok_l {xs : List D} (h : ∀ x ∈ xs, dok 59 x = true) : dok 60 (.lst xs) = true := List.all_eq_true.mpr h
theorem dok_t {xs : List D} (h : ∀ x ∈ xs, dok 59 x = true) : dok 60 (.tup xs) = true := List.all_eq_true.mpr h
theorem dok_m {α : Type} {g : α → D} (h : ∀ a, dok 59 (g a) = true) (c : List α) : ∀ x ∈ c.map g, dok 59 x = true := by
  intro x hx
  obtain ⟨a, _, rfl⟩ := List.mem_map.mp hx
  exact h a
theorem dok_s {xs : List D} (h : ∀ x ∈ xs, dok 59 x = true) : dok 60 (.lst (sortR gtD xs)) = true := dok_l fun x hx => h x (mem_sortR.mp hx)
theorem map_map2 {α β γ : Type} (f : α → β) (g : β → γ) (l : List α) : (l.map f).map g = l.map fun a => g (f a) := by
  rw [List.map_map]; rfl
theorem drp_call {φ : List D → R D} {l : PL} {st : AS} {xs : List D} {v : D} (h1 : l st = some xs) (h2 : φ xs = .ok v) : sDrpK (mCallP φ l) st = .ok (.nx st) := by
  unfold sDrpK
  rw [callP_ok h1 h2]
  rfl
theorem oLSet_dd {ks : List (List Int)} (h0 : ks ≠ []) (h1 : ks.length < 64) : oLSet (.lst (ks.map tupZ)) = some (.int (dd ks).length) := by
  have e : ints? (ks.map tupZ) = none := by
    cases ks with
    | nil => exact absurd rfl h0
    | cons k r => rfl
  unfold oLSet
  simp only [e, tupi_map]
  have : Nat.blt ks.length 64 = true := Nat.ble_eq_true_of_le h1
  rw [this]
theorem dd_map {α β : Type} [DecidableEq α] [DecidableEq β] {f : α → β} (h : ∀ x y, f x = f y → x = y) : ∀ l : List α, dd (l.map f) = (dd l).map f
  | [] => rfl
  | x :: r => by
    have : f x ∈ r.map f ↔ x ∈ r := ⟨fun q => by
      obtain ⟨y, hy, e⟩ := List.mem_map.mp q
      rw [← h _ _ e]; exact hy, fun q => List.mem_map_of_mem q⟩
    rw [List.map_cons]
    unfold dd
    by_cases e : x ∈ r
    · rw [if_pos e, if_pos (this.mpr e), dd_map h r]
    · rw [if_neg e, if_neg (fun q => e (this.mp q)), dd_map h r]
      rfl
def ivl (lo : Int) : Nat → List Int
  | 0 => []
  | n + 1 => lo :: ivl (lo + 1) n
theorem rngK_ivl : ∀ (n : Nat) (lo : Int), rngK n lo = (ivl lo n).map D.int
  | 0, _ => rfl
  | n + 1, lo => by
    show fcI lo (fun lo => D.int lo :: rngK n (lo + 1)) = _
    rw [fcI_eq, rngK_ivl n]
    rfl
theorem ivl_len : ∀ (n : Nat) (lo : Int), (ivl lo n).length = n
  | 0, _ => rfl
  | n + 1, lo => congrArg (· + 1) (ivl_len n (lo + 1))
theorem ivl_mem : ∀ {n : Nat} {lo x : Int}, lo ≤ x → x < lo + n → x ∈ ivl lo n
  | 0, lo, x, h1, h2 => by omega
  | n + 1, lo, x, h1, h2 => by
    by_cases e : x = lo
    · rw [e]; exact List.mem_cons_self
    · exact List.mem_cons_of_mem _ (ivl_mem (n := n) (by omega) (by omega))
theorem fits_ok {i : Int} (h : -1000 ≤ i) (h2 : i ≤ 1000) : fits62 i = true := by
  unfold fits62
  rw [Bool.and_eq_true, decide_eq_true_eq, decide_eq_true_eq]
  omega
theorem memK_int {i : Int} : ∀ {l : List Int}, i ∈ l → memK (.int i) (l.map D.int) = true
  | [], h => nomatch h
  | x :: r, h => by
    show bK (eqIK x i) true (memK (.int i) (r.map D.int)) = true
    rw [eqIK_eq]
    by_cases e : x = i
    · rw [decide_eq_true e]; rfl
    · rw [decide_eq_false e]
      rcases List.mem_cons.mp h with q | q
      · exact absurd q.symm e
      · exact memK_int q
theorem wh_succ (t : MT) (b : MS) (n : Nat) (st : AS) : whK t b (n + 1) st = bindK (t st) fun p => bK p.1 (bindK (b p.2) fun f => flK f (whK t b n) (fun d => .ok (.rt d)) (fun s => .ok (.nx s)) (whK t b n)) (.ok (.nx p.2)) := rfl
theorem sq_nx {a b : MS} {st st' : AS} (h : a st = .ok (.nx st')) : sSqK a b st = b st' := by
  unfold sSqK
  rw [h, bk_ok, fl_nx]
theorem appKC_ok {g : GS} {s : SS} {m : ME} {st st' : AS} {x l0 : D} {xs : List D} (hg : g st = some l0) (hm : m st = .ok (x, st')) (hg' : g st' = some (.lst xs)) (hn : nHK x = true) (hl : xs.length ≤ 16000000) : sAppKC g s m st = .ok (.nx (s (some (.lst (xs ++ [x]))) st')) := by
  unfold sAppKC
  have l : lenK xs 0 = true := by
    rw [lenK_eq, Nat.zero_add]
    exact Nat.ble_eq_true_of_le hl
  rw [hg, opK_some, hm, bk_ok, hg', opK_some]
  show bK (nHK x) (bK (lenK xs 0) (apC xs [x] _) R.bad) R.bad = _
  rw [hn, bK_t, l, bK_t, apC_eq]
theorem sumI_perm {a b : List Int} (h : a.Perm b) : sumI a = sumI b := by
  induction h with
  | nil => rfl
  | cons x _ ih => show x + sumI _ = x + sumI _; rw [ih]
  | swap x y l => show y + (x + sumI l) = x + (y + sumI l); omega
  | trans _ _ h1 h2 => rw [h1, h2]
theorem er_perm {α : Type} : ∀ {l : List α} {i : Nat} {x : α}, l[i]? = some x → l.Perm (x :: l.eraseIdx i)
  | [], i, x, h => by cases i <;> cases h
  | a :: l, 0, x, h => by cases h; exact .refl _
  | a :: l, i + 1, x, h => by
    have := er_perm (l := l) (i := i) (x := x) h
    exact (this.cons a).trans (.swap x a _)
theorem forK_alln {A : AT} {b : MS} {I : Nat → AS → Prop} {K : Nat} : ∀ (ds : List D) (k : Nat) (st : AS), (∀ d ∈ ds, ∀ k, k < K → ∀ st, I k st → ∃ st1, A d st = some st1 ∧ (b st1).all fun fl => ∃ st2, fl = .nx st2 ∧ I (k + 1) st2) → k + ds.length ≤ K → I k st → (forK A b ds st).all fun fl => ∃ st2, fl = .nx st2 ∧ I (k + ds.length) st2
  | [], k, st, _, _, h => ⟨st, rfl, h⟩
  | d :: r, k, st, h, hk, hi => by
    rw [List.length_cons] at hk
    obtain ⟨st1, h1, h2⟩ := h d (by simp) k (by omega) st hi
    rw [fo_cons, h1, opK_some]
    refine all_bk (R.all_mono (fun fl q => ?_) h2)
    obtain ⟨st2, rfl, i2⟩ := q
    rw [fl_nx, List.length_cons, show k + (r.length + 1) = k + 1 + r.length by omega]
    exact forK_alln r (k + 1) st2 (fun d hd => h d (by simp [hd])) (by omega) i2
/-- the parts now: c; found: f -/
theorem r1_k (m : ME) (st : AS) : sR1 m st = bindK (m st) fun p => opK (dIK p.1) fun n => bK (fits62 n) (.ok (rng 0 n.toNat, p.2)) .bad := by
  unfold sR1
  rw [bindK_eq]
  congr 1
  funext p
  obtain ⟨d, s⟩ := p
  cases d with
  | int n =>
    show (match fits62 n with | true => _ | false => _) = bK (fits62 n) _ _
    cases fits62 n <;> rfl
  | _ => rfl
theorem liE_ok {e : PX} {st : AS} {d : D} (h : e st = some d) : liE e st = .ok (d, st) := by
  unfold liE
  rw [h]
  rfl
theorem m1_ok {f : D → Option D} {m : ME} {st st' : AS} {d e : D} (h : m st = .ok (d, st')) (hf : f d = some e) : m1K f m st = .ok (e, st') := by
  unfold m1K
  rw [h, bk_ok]
  dsimp only
  rw [hf]
  rfl
theorem m2_ok {f : D → D → Option D} {x y : ME} {st st' st'' : AS} {d e v : D} (h : x st = .ok (d, st')) (h2 : y st' = .ok (e, st'')) (hf : f d e = some v) : m2K f x y st = .ok (v, st'') := by
  unfold m2K
  rw [h, bk_ok]
  dsimp only
  rw [h2, bk_ok]
  dsimp only
  rw [hf]
  rfl
theorem p1_of {f : D → Option D} {x : PX} {st : AS} {d e : D} (h : x st = some d) (hf : f d = some e) : p1 f x st = some e := by
  unfold p1
  rw [h, ooK_some, hf]
theorem asK_ok {A : AT} {m : ME} {st st' st2 : AS} {d : D} (h : m st = .ok (d, st')) (hA : A d st' = some st2) : sAsK A m st = .ok (.nx st2) := by
  unfold sAsK
  rw [h, bk_ok]
  dsimp only
  rw [hA]
  rfl
theorem asP_ok {A : AT} {e : PX} {st st2 : AS} {d : D} (h : e st = some d) (hA : A d st = some st2) : sAsP A e st = .ok (.nx st2) := by
  unfold sAsP
  rw [h, opK_some, hA]
  rfl
/-- a test that fails to find a difference -/
theorem ifK_ok {f : D → D → Option D} {x y : ME} {st : AS} {d e : D} {a b : MS} (hx : x st = .ok (d, st)) (hy : y st = .ok (e, st)) (he : f d e = some (.bl false)) : sSqK (sIfK (tValK (m2K f x y)) a sSkip) b st = b st := by
  refine sq_nx ?_
  unfold sIfK tValK
  rw [m2_ok hx hy he]
  rfl
theorem ifP_ok {f : D → D → Option D} {x y : PX} {st : AS} {d e : D} {a b : MS} (hx : x st = some d) (hy : y st = some e) (he : f d e = some (.bl false)) : sSqK (sIfP (pT (p2 f x y)) a sSkip) b st = b st := by
  refine sq_nx ?_
  unfold sIfP pT p2
  rw [hx, ooK_some, hy, ooK_some, he]
  rfl
theorem pLc_of {α β : Type} {A : AT} {w : AS → AS} {c : PB} {e : PX} {st : AS} {s : PL} {g : α → D} {k : β → D} {t : α → β} (l : List α) (hs : s st = some (l.map g)) (h : ∀ r ∈ l, ∃ st1, A (g r) (w st) = some st1 ∧ c st1 = some true ∧ e st1 = some (k (t r)) ∧ nHK (k (t r)) = true) (hl : l.length ≤ 16000000) : pLc s A w c e st = some (.lst ((l.map t).map k)) := by
  unfold pLc
  rw [hs, ooK_some, map_map2]
  show ooK (lcP A c e (w st) (l.map g) 0) _ = _
  rw [lcP_mapg (h := fun r => k (t r)) l 0 h (by omega)]
  rfl
theorem dok_ints (l : List Int) : ∀ x ∈ l.map D.int, dok 59 x = true := dok_m (fun _ => rfl) l
theorem nei (l : List Int) : oEqFK (fun b => !b) (.lst (l.map D.int)) (.lst (l.map D.int)) = some (.bl false) := eq_same (dok_l (dok_ints l))
theorem in_ok {i : Int} {l : List Int} (h : i ∈ l) : oInK (fun b => !b) (.int i) (.lst (l.map D.int)) = some (.bl false) := by
  show bK (bK (dokK 60 (.int i)) (allK (dokK 60) (l.map D.int)) false) (some (D.bl (!(memK (.int i) (l.map D.int))))) none = _
  have a : allK (dokK 60) (l.map D.int) = true := by
    rw [allK_eq, List.all_eq_true]
    intro x hx
    obtain ⟨j, _, rfl⟩ := List.mem_map.mp hx
    rfl
  rw [a, memK_int h]
  rfl
theorem p2_of {f : D → D → Option D} {x y : PX} {st : AS} {d e v : D} (h : x st = some d) (h2 : y st = some e) (hf : f d e = some v) : p2 f x y st = some v := by
  unfold p2
  rw [h, ooK_some, h2, ooK_some, hf]
end EV
set_option maxHeartbeats 0
/-! sorting does not mind the order -/
namespace EV
open PySem PySem.Spec PyProof.Rows L2 RZ
/-- gt is a strict order in which any two are comparable -/
structure Ord {α : Type} (gt : α → α → Bool) : Prop where
  as : ∀ {a b}, gt a b = true → gt b a = false
  tr : ∀ {a b c}, gt a b = true → gt b c = true → gt a c = true
  eq : ∀ {a b}, gt a b = false → gt b a = false → a = b
section
variable {α : Type} {gt : α → α → Bool} (O : Ord gt)
include O
theorem Ord.step {x y z : α} (h1 : gt x z = true) (h2 : gt y z = false) : gt x y = true := by
  cases e : gt z y with
  | true => exact O.tr h1 e
  | false => rw [O.eq h2 e]; exact h1
theorem insR_comm (x y : α) : ∀ l : List α, insR gt x (insR gt y l) = insR gt y (insR gt x l)
  | [] => by
    show (match gt x y with | true => y :: [x] | false => x :: [y]) = (match gt y x with | true => x :: [y] | false => y :: [x])
    cases e : gt x y with
    | true => rw [O.as e]
    | false =>
      cases e2 : gt y x with
      | true => rfl
      | false => rw [O.eq e e2]
  | z :: l => by
    have hx : insR gt x (z :: l) = (match gt x z with | true => z :: insR gt x l | false => x :: z :: l) := rfl
    have hy : insR gt y (z :: l) = (match gt y z with | true => z :: insR gt y l | false => y :: z :: l) := rfl
    rw [hx, hy]
    cases e1 : gt x z with
    | true =>
      cases e2 : gt y z with
      | true =>
        show (match gt x z with | true => z :: insR gt x (insR gt y l) | false => _) = (match gt y z with | true => z :: insR gt y (insR gt x l) | false => _)
        rw [e1, e2, insR_comm x y l]
      | false =>
        show (match gt x y with | true => y :: insR gt x (z :: l) | false => x :: y :: z :: l) = (match gt y z with | true => z :: insR gt y (insR gt x l) | false => y :: z :: insR gt x l)
        rw [O.step e1 e2, e2, hx, e1]
    | false =>
      cases e2 : gt y z with
      | true =>
        show (match gt x z with | true => z :: insR gt x (insR gt y l) | false => x :: z :: insR gt y l) = (match gt y x with | true => x :: insR gt y (z :: l) | false => y :: x :: z :: l)
        rw [O.step e2 e1, e1, hy, e2]
      | false =>
        show (match gt x y with | true => y :: insR gt x (z :: l) | false => x :: y :: z :: l) = (match gt y x with | true => x :: insR gt y (z :: l) | false => y :: x :: z :: l)
        rw [hx, hy, e1, e2]
        cases e : gt x y with
        | true => rw [O.as e]
        | false =>
          cases e3 : gt y x with
          | true => rfl
          | false => rw [O.eq e e3]
theorem sortR_perm_eq {l m : List α} (h : l.Perm m) : sortR gt l = sortR gt m := by
  induction h with
  | nil => rfl
  | cons x _ ih => show insR gt x _ = insR gt x _; rw [ih]
  | swap x y l => exact insR_comm O y x (sortR gt l)
  | trans _ _ h1 h2 => rw [h1, h2]
end
theorem insR_perm {α : Type} {gt : α → α → Bool} (x : α) : ∀ l : List α, (insR gt x l).Perm (x :: l)
  | [] => .refl _
  | y :: l => by
    show (match gt x y with | true => y :: insR gt x l | false => x :: y :: l).Perm _
    cases gt x y with
    | true => exact ((insR_perm x l).cons y).trans (.swap x y l)
    | false => exact .refl _
theorem sortR_perm {α : Type} {gt : α → α → Bool} : ∀ l : List α, (sortR gt l).Perm l
  | [] => .refl _
  | x :: l => (insR_perm x (sortR gt l)).trans ((sortR_perm l).cons x)
def gtI (a b : Int) : Bool := decide (b < a)
theorem ordI : Ord gtI where
  as h := by unfold gtI at *; rw [decide_eq_true_eq] at h; exact decide_eq_false (by omega)
  tr h h2 := by unfold gtI at *; rw [decide_eq_true_eq] at *; omega
  eq h h2 := by unfold gtI at *; rw [decide_eq_false_iff_not] at *; omega
theorem sortI_map (l : List Int) : sortR gtD (l.map D.int) = (sortR gtI l).map D.int := sortR_map (fun _ _ => rfl) l
theorem sortI_ok (l : List Int) : sortOpK (l.map D.int) = some (.lst ((sortR gtI l).map D.int)) := by
  rw [sort_of (homI 59 (fun i => i) l) (ne_map _ fun a h => by cases h), ← sortI_map]
/-- lists of whole numbers, as they are compared -/
def gtL : List Int → List Int → Bool
  | [], _ => false
  | _ :: _, [] => true
  | a :: r, b :: s => match decide (b = a) with | true => gtL r s | false => decide (b < a)
theorem gtL_as : ∀ {a b : List Int}, gtL a b = true → gtL b a = false
  | [], _, h => by cases h
  | _ :: _, [], _ => rfl
  | a :: r, b :: s, h => by
    have h : (match decide (b = a) with | true => gtL r s | false => decide (b < a)) = true := h
    show (match decide (a = b) with | true => gtL s r | false => decide (a < b)) = false
    by_cases e : b = a
    · rw [decide_eq_true e] at h
      rw [decide_eq_true e.symm]
      exact gtL_as h
    · rw [decide_eq_false e] at h
      rw [decide_eq_false (fun q => e q.symm)]
      have h : decide (b < a) = true := h
      rw [decide_eq_true_eq] at h
      exact decide_eq_false (by omega)
theorem gtL_tr : ∀ {a b c : List Int}, gtL a b = true → gtL b c = true → gtL a c = true
  | [], _, _, h, _ => by cases h
  | _ :: _, [], _, _, h => by cases h
  | _ :: _, _ :: _, [], _, _ => rfl
  | a :: r, b :: s, c :: t, h, h2 => by
    have h : (match decide (b = a) with | true => gtL r s | false => decide (b < a)) = true := h
    have h2 : (match decide (c = b) with | true => gtL s t | false => decide (c < b)) = true := h2
    show (match decide (c = a) with | true => gtL r t | false => decide (c < a)) = true
    by_cases e : b = a <;> by_cases e2 : c = b
    · rw [decide_eq_true e] at h
      rw [decide_eq_true e2] at h2
      rw [decide_eq_true (e2.trans e)]
      exact gtL_tr h h2
    · rw [decide_eq_false e2] at h2
      have h2 : decide (c < b) = true := h2
      rw [decide_eq_true_eq] at h2
      rw [decide_eq_false (show ¬ c = a by omega)]
      exact decide_eq_true (by omega)
    · rw [decide_eq_false e] at h
      have h : decide (b < a) = true := h
      rw [decide_eq_true_eq] at h
      rw [decide_eq_false (show ¬ c = a by omega)]
      exact decide_eq_true (by omega)
    · rw [decide_eq_false e] at h
      rw [decide_eq_false e2] at h2
      have h : decide (b < a) = true := h
      have h2 : decide (c < b) = true := h2
      rw [decide_eq_true_eq] at h h2
      rw [decide_eq_false (show ¬ c = a by omega)]
      exact decide_eq_true (by omega)
theorem gtL_eq : ∀ {a b : List Int}, gtL a b = false → gtL b a = false → a = b
  | [], [], _, _ => rfl
  | [], _ :: _, _, h => by cases h
  | _ :: _, [], h, _ => by cases h
  | a :: r, b :: s, h, h2 => by
    have h : (match decide (b = a) with | true => gtL r s | false => decide (b < a)) = false := h
    have h2 : (match decide (a = b) with | true => gtL s r | false => decide (a < b)) = false := h2
    by_cases e : b = a
    · rw [decide_eq_true e] at h
      rw [decide_eq_true e.symm] at h2
      rw [e, gtL_eq h h2]
    · rw [decide_eq_false e] at h
      rw [decide_eq_false (fun q => e q.symm)] at h2
      have h : decide (b < a) = false := h
      have h2 : decide (a < b) = false := h2
      rw [decide_eq_false_iff_not] at h h2
      omega
theorem ordL : Ord gtL := ⟨gtL_as, gtL_tr, gtL_eq⟩
theorem ltsZ (n : Nat) : ∀ a b : List Int, lts (eqf (n + 1)) (ltf (n + 1)) (b.map D.int) (a.map D.int) = gtL a b
  | [], [] => rfl
  | [], _ :: _ => rfl
  | _ :: _, [] => rfl
  | a :: r, b :: s => by
    show (match decide (b = a) with | true => lts (eqf (n + 1)) (ltf (n + 1)) (s.map D.int) (r.map D.int) | false => decide (b < a)) = _
    rw [ltsZ n r s]
    rfl
theorem gtD_Z (a b : List Int) : gtD (.tup (a.map D.int)) (.tup (b.map D.int)) = gtL a b := ltsZ 58 a b
theorem sortL_map (l : List (List Int)) : sortR gtD (l.map tupZ) = (sortR gtL l).map tupZ := sortR_map gtD_Z l
end EV
set_option maxHeartbeats 0
namespace EV
open PySem PySem.Spec PyProof.Rows L2 RZ
abbrev tZ (A : List Int) : D := .tup (A.map D.int)
structure Lot (n : Int) (A : List Int) : Prop where
  n1 : 1 ≤ n
  n2 : n ≤ 12
  ne : A ≠ []
  rg : ∀ a ∈ A, 0 ≤ a ∧ a < n
  up : A.Pairwise (· < ·)
theorem t0 (i : Int) : F0 [.int i] = .ok (.bl true) := rfl
theorem t1 (i lo hi : Int) : F1 [.int i, .int lo, .int hi] = .ok (.bl (bK (decide (lo ≤ i)) (decide (i ≤ hi)) false)) := by
  simp only [F1, nn1, runK, sSqK, sIfK, sIfP, tOrK, tAndK, tNotK, tValK, liE, liT, liL, liI, liO, pNotT, pT, p1, p2, pK, pCons, pNil, pYes, pSeq, pAndE, pOrE, pNotE, pAndT, pOrT, pChain, pIf, pTup, pLst, pLc, pDic, pR1, pR2, sRetP, sRetK, sAsP, sAsK, sAoP, sAoK, sDrpK, sPar2K, sPar3K, sForP, sForK, sAppC, mAndK, mOrK, mNotK, mIfK, lConsK, mTupK, mLstK, mMK, m1K, m2K, mLcK, mCallP, mCallK, in_nil, in_cons, re_zero, re_succ, bk_ok, bk_dr, opK_some, opK_none, ooK_some, ooK_none, bK_t, bK_f, hd_cons, tl_cons, s0_cons, st_cons, fl_nx, fl_rt, fl_bk, fl_ct, rt_rt, rt_nx, dB_bl, dI_int, sq_tup, sq_lst, at_tup, al_nil, al_cons, nm_set, isi_tup_t, nh_int, nh_tup, nh_lst, nh_bl, nh_all_nil, nh_all_cons, ln_nil, ln_cons, lc_nil, lc_cons, lk_nil, lk_cons, fo_nil, fo_cons, all_l, any_l, allB_nil, anyB_nil, allB_cons, anyB_cons, ix_t0, ix_l0, ix_l1, ix_t1, ix_t2, ix_t3, pSl, pNo, pPart, pEnum, skip_nx, seq_k, fclk_eq, fck_eq, len_t, len_l, eq_i, ge_i, le_i, lt_i, gt_i, add_i, sub_i, int_i, chl, chle, id_eq, ble_ok, Nat.reduceAdd, List.length_cons, List.length_nil, decide_true, decide_false, Bool.not_true, Bool.not_false, Nat.zero_add, Nat.reduceLeDiff, Int.cast_ofNat_Int, g0, s0, g1, s1, g2, s2, g3, s3, g4, s4, g5, s5, g6, s6, g7, s7, g8, s8, g9, s9, g10, s10, g11, s11, g12, s12, g13, s13, g14, s14, g15, s15, g16, s16, g17, s17, g18, s18, g19, s19, g20, s20, g21, s21, g22, s22, g23, s23, g24, s24, g25, s25, g26, s26, g27, s27, g28, s28, g29, s29, g30, s30, g31, s31, g32, s32, g33, s33, g34, s34, g35, s35, g36, s36, g37, s37, g38, s38, g39, s39, t0]
  cases decide (lo ≤ i) <;> rfl
theorem t1t {i lo hi : Int} (h : lo ≤ i) (h2 : i ≤ hi) : F1 [.int i, .int lo, .int hi] = .ok (.bl true) := by
  rw [t1, decide_eq_true h, decide_eq_true h2]
  rfl
theorem t2 {n : Int} (h1 : 1 ≤ n) (h2 : n ≤ 12) : F2 [.int n] = .ok .non := by
  simp only [F2, nn2, runK, sSqK, sIfK, sIfP, tOrK, tAndK, tNotK, tValK, liE, liT, liL, liI, liO, pNotT, pT, p1, p2, pK, pCons, pNil, pYes, pSeq, pAndE, pOrE, pNotE, pAndT, pOrT, pChain, pIf, pTup, pLst, pLc, pDic, pR1, pR2, sRetP, sRetK, sAsP, sAsK, sAoP, sAoK, sDrpK, sPar2K, sPar3K, sForP, sForK, sAppC, mAndK, mOrK, mNotK, mIfK, lConsK, mTupK, mLstK, mMK, m1K, m2K, mLcK, mCallP, mCallK, in_nil, in_cons, re_zero, re_succ, bk_ok, bk_dr, opK_some, opK_none, ooK_some, ooK_none, bK_t, bK_f, hd_cons, tl_cons, s0_cons, st_cons, fl_nx, fl_rt, fl_bk, fl_ct, rt_rt, rt_nx, dB_bl, dI_int, sq_tup, sq_lst, at_tup, al_nil, al_cons, nm_set, isi_tup_t, nh_int, nh_tup, nh_lst, nh_bl, nh_all_nil, nh_all_cons, ln_nil, ln_cons, lc_nil, lc_cons, lk_nil, lk_cons, fo_nil, fo_cons, all_l, any_l, allB_nil, anyB_nil, allB_cons, anyB_cons, ix_t0, ix_l0, ix_l1, ix_t1, ix_t2, ix_t3, pSl, pNo, pPart, pEnum, skip_nx, seq_k, fclk_eq, fck_eq, len_t, len_l, eq_i, ge_i, le_i, lt_i, gt_i, add_i, sub_i, int_i, chl, chle, id_eq, ble_ok, Nat.reduceAdd, List.length_cons, List.length_nil, decide_true, decide_false, Bool.not_true, Bool.not_false, Nat.zero_add, Nat.reduceLeDiff, Int.cast_ofNat_Int, g0, s0, g1, s1, g2, s2, g3, s3, g4, s4, g5, s5, g6, s6, g7, s7, g8, s8, g9, s9, g10, s10, g11, s11, g12, s12, g13, s13, g14, s14, g15, s15, g16, s16, g17, s17, g18, s18, g19, s19, g20, s20, g21, s21, g22, s22, g23, s23, g24, s24, g25, s25, g26, s26, g27, s27, g28, s28, g29, s29, g30, s30, g31, s31, g32, s32, g33, s33, g34, s34, g35, s35, g36, s36, g37, s37, g38, s38, g39, s39, t1t h1 (show n ≤ 48 by omega)]
theorem len12 {n : Int} {A : List Int} (L : Lot n A) : A.length ≤ 12 := by
  have : ∀ (l : List Int) (k m : Int), l.Pairwise (· < ·) → (∀ a ∈ l, k ≤ a ∧ a < m) → k ≤ m → (l.length : Int) ≤ m - k := by
    intro l
    induction l with
    | nil => intro k m _ _ h; show (0 : Int) ≤ _; omega
    | cons x r ih =>
      intro k m hp hr hk
      have h1 := List.pairwise_cons.mp hp
      have h2 := hr x (by simp)
      have := ih (x + 1) m h1.2 (fun a ha => by have := h1.1 a ha; have := hr a (by simp [ha]); omega) (by omega)
      rw [List.length_cons]
      omega
  have h := this A 0 n L.up L.rg (by have := L.n1; omega)
  have := L.n2
  omega
end EV
set_option maxHeartbeats 0
namespace EV
open PySem PySem.Spec PyProof.Rows L2 RZ
theorem dokZ (A : List Int) : dok 60 (tZ A) = true := dok_t (dok_ints A)
theorem nilZ (f : Bool → Bool) : ∀ A : List Int, oEqFK f (tZ A) (.tup []) = some (.bl (f (decide (A = []))))
  | [] => by
    rw [decide_eq_true rfl]
    exact eq_same rfl
  | a :: r => by
    rw [oEqFK_eq, decide_eq_false (by simp)]
    show slowEq f (tZ (a :: r)) (.tup []) = _
    unfold slowEq
    rw [dokZ]
    rfl
theorem zipK_map : ∀ (A B : List Int), zipK (A.map D.int) (B.map D.int) = (A.zip B).map fun p => D.tup [.int p.1, .int p.2]
  | [], B => by cases B <;> rfl
  | a :: A, [] => rfl
  | a :: A, b :: B => by
    show D.tup [.int a, .int b] :: zipK (A.map D.int) (B.map D.int) = _
    rw [zipK_map A B]
    rfl
def inR (n a : Int) : Bool := decide (0 ≤ a) && decide (a ≤ n - 1)
def ups (A : List Int) : Bool := (A.zip (A.drop 1)).all fun p => decide (p.1 < p.2)
theorem t3 {n : Int} {A : List Int} (h1 : 1 ≤ n) (h2 : n ≤ 12) (hl : A.length ≤ 1000) (hne : A ≠ []) : F3 [.int n, tZ A] = .ok (.bl (A.all (inR n) && ups A)) := by
  have e1 := lcK_mapg (A := aNm s2) (st := [some (.int n), some (tZ A), none, none]) (c := liT pYes) (e := mCallP F1 (pCons g2 (pCons (pK (.int 0)) (pCons (p2 oSubK g0 (pK (.int 1))) pNil)))) (g := D.int) (h := fun a => .bl (inR n a)) A 0 (fun a ha => ⟨[some (.int n), some (tZ A), some (.int a), none], rfl, ⟨_, rfl⟩, ⟨_, callP_ok (xs := [.int a, .int 0, .int (n - 1)]) (by simp only [runK, sSqK, sIfK, sIfP, tOrK, tAndK, tNotK, tValK, liE, liT, liL, liI, liO, pNotT, pT, p1, p2, pK, pCons, pNil, pYes, pSeq, pAndE, pOrE, pNotE, pAndT, pOrT, pChain, pIf, pTup, pLst, pLc, pDic, pR1, pR2, sRetP, sRetK, sAsP, sAsK, sAoP, sAoK, sDrpK, sPar2K, sPar3K, sForP, sForK, sAppC, mAndK, mOrK, mNotK, mIfK, lConsK, mTupK, mLstK, mMK, m1K, m2K, mLcK, mCallP, mCallK, in_nil, in_cons, re_zero, re_succ, bk_ok, bk_dr, opK_some, opK_none, ooK_some, ooK_none, bK_t, bK_f, hd_cons, tl_cons, s0_cons, st_cons, fl_nx, fl_rt, fl_bk, fl_ct, rt_rt, rt_nx, dB_bl, dI_int, sq_tup, sq_lst, at_tup, al_nil, al_cons, nm_set, isi_tup_t, nh_int, nh_tup, nh_lst, nh_bl, nh_all_nil, nh_all_cons, ln_nil, ln_cons, lc_nil, lc_cons, lk_nil, lk_cons, fo_nil, fo_cons, all_l, any_l, allB_nil, anyB_nil, allB_cons, anyB_cons, ix_t0, ix_l0, ix_l1, ix_t1, ix_t2, ix_t3, pSl, pNo, pPart, pEnum, skip_nx, seq_k, fclk_eq, fck_eq, len_t, len_l, eq_i, ge_i, le_i, lt_i, gt_i, add_i, sub_i, int_i, chl, chle, id_eq, ble_ok, Nat.reduceAdd, List.length_cons, List.length_nil, decide_true, decide_false, Bool.not_true, Bool.not_false, Nat.zero_add, Nat.reduceLeDiff, Int.cast_ofNat_Int, g0, s0, g1, s1, g2, s2, g3, s3, g4, s4, g5, s5, g6, s6, g7, s7, g8, s8, g9, s9, g10, s10, g11, s11, g12, s12, g13, s13, g14, s14, g15, s15, g16, s16, g17, s17, g18, s18, g19, s19, g20, s20, g21, s21, g22, s22, g23, s23, g24, s24, g25, s25, g26, s26, g27, s27, g28, s28, g29, s29, g30, s30, g31, s31, g32, s32, g33, s33, g34, s34, g35, s35, g36, s36, g37, s37, g38, s38, g39, s39]) ((t1 _ _ _).trans (by
    unfold inR
    cases decide (0 ≤ a) <;> rfl))⟩, rfl⟩) (by omega)
  have e2 := allB_mapg (inR n) A
  have sl : slD false (tZ A) (some 1) none = some (tZ (A.drop 1)) := by
    show some (D.tup (cutD (A.map D.int) (some ((1 : Nat) : Int)) none)) = _
    rw [cut_drop]
    show some (D.tup ((A.map D.int).drop 1)) = some (D.tup ((A.drop 1).map D.int))
    rw [List.map_drop]
  have z : zpD (tZ A) (tZ (A.drop 1)) = some ((A.zip (A.drop 1)).map fun p => D.tup [.int p.1, .int p.2]) := by
    show some (zipK (A.map D.int) ((A.drop 1).map D.int)) = _
    rw [zipK_map]
  have zl : 0 + (A.zip (A.drop 1)).length ≤ 16000000 := by
    rw [List.length_zip]
    omega
  have e3 := lcP_mapg (A := aTp (aCons (aNm s2) (aCons (aNm s3) aNil))) (st := [some (.int n), some (tZ A), none, none]) (c := pYes) (e := p2 oLtK g2 g3) (g := fun p : Int × Int => D.tup [.int p.1, .int p.2]) (h := fun p => .bl (decide (p.1 < p.2))) (A.zip (A.drop 1)) 0 (fun p hp => ⟨[some (.int n), some (tZ A), some (.int p.1), some (.int p.2)], rfl, rfl, by simp only [runK, sSqK, sIfK, sIfP, tOrK, tAndK, tNotK, tValK, liE, liT, liL, liI, liO, pNotT, pT, p1, p2, pK, pCons, pNil, pYes, pSeq, pAndE, pOrE, pNotE, pAndT, pOrT, pChain, pIf, pTup, pLst, pLc, pDic, pR1, pR2, sRetP, sRetK, sAsP, sAsK, sAoP, sAoK, sDrpK, sPar2K, sPar3K, sForP, sForK, sAppC, mAndK, mOrK, mNotK, mIfK, lConsK, mTupK, mLstK, mMK, m1K, m2K, mLcK, mCallP, mCallK, in_nil, in_cons, re_zero, re_succ, bk_ok, bk_dr, opK_some, opK_none, ooK_some, ooK_none, bK_t, bK_f, hd_cons, tl_cons, s0_cons, st_cons, fl_nx, fl_rt, fl_bk, fl_ct, rt_rt, rt_nx, dB_bl, dI_int, sq_tup, sq_lst, at_tup, al_nil, al_cons, nm_set, isi_tup_t, nh_int, nh_tup, nh_lst, nh_bl, nh_all_nil, nh_all_cons, ln_nil, ln_cons, lc_nil, lc_cons, lk_nil, lk_cons, fo_nil, fo_cons, all_l, any_l, allB_nil, anyB_nil, allB_cons, anyB_cons, ix_t0, ix_l0, ix_l1, ix_t1, ix_t2, ix_t3, pSl, pNo, pPart, pEnum, skip_nx, seq_k, fclk_eq, fck_eq, len_t, len_l, eq_i, ge_i, le_i, lt_i, gt_i, add_i, sub_i, int_i, chl, chle, id_eq, ble_ok, Nat.reduceAdd, List.length_cons, List.length_nil, decide_true, decide_false, Bool.not_true, Bool.not_false, Nat.zero_add, Nat.reduceLeDiff, Int.cast_ofNat_Int, g0, s0, g1, s1, g2, s2, g3, s3, g4, s4, g5, s5, g6, s6, g7, s7, g8, s8, g9, s9, g10, s10, g11, s11, g12, s12, g13, s13, g14, s14, g15, s15, g16, s16, g17, s17, g18, s18, g19, s19, g20, s20, g21, s21, g22, s22, g23, s23, g24, s24, g25, s25, g26, s26, g27, s27, g28, s28, g29, s29, g30, s30, g31, s31, g32, s32, g33, s33, g34, s34, g35, s35, g36, s36, g37, s37, g38, s38, g39, s39], rfl⟩) zl
  have e4 := allB_mapg (fun p : Int × Int => decide (p.1 < p.2)) (A.zip (A.drop 1))
  have nz := nilZ id A
  rw [decide_eq_false hne] at nz
  simp only [runK, sSqK, sIfK, sIfP, tOrK, tAndK, tNotK, tValK, liE, liT, liL, liI, liO, pNotT, pT, p1, p2, pK, pCons, pNil, pYes, pSeq, pAndE, pOrE, pNotE, pAndT, pOrT, pChain, pIf, pTup, pLst, pLc, pDic, pR1, pR2, sRetP, sRetK, sAsP, sAsK, sAoP, sAoK, sDrpK, sPar2K, sPar3K, sForP, sForK, sAppC, mAndK, mOrK, mNotK, mIfK, lConsK, mTupK, mLstK, mMK, m1K, m2K, mLcK, mCallP, mCallK, in_nil, in_cons, re_zero, re_succ, bk_ok, bk_dr, opK_some, opK_none, ooK_some, ooK_none, bK_t, bK_f, hd_cons, tl_cons, s0_cons, st_cons, fl_nx, fl_rt, fl_bk, fl_ct, rt_rt, rt_nx, dB_bl, dI_int, sq_tup, sq_lst, at_tup, al_nil, al_cons, nm_set, isi_tup_t, nh_int, nh_tup, nh_lst, nh_bl, nh_all_nil, nh_all_cons, ln_nil, ln_cons, lc_nil, lc_cons, lk_nil, lk_cons, fo_nil, fo_cons, all_l, any_l, allB_nil, anyB_nil, allB_cons, anyB_cons, ix_t0, ix_l0, ix_l1, ix_t1, ix_t2, ix_t3, pSl, pNo, pPart, pEnum, skip_nx, seq_k, fclk_eq, fck_eq, len_t, len_l, eq_i, ge_i, le_i, lt_i, gt_i, add_i, sub_i, int_i, chl, chle, id_eq, ble_ok, Nat.reduceAdd, List.length_cons, List.length_nil, decide_true, decide_false, Bool.not_true, Bool.not_false, Nat.zero_add, Nat.reduceLeDiff, Int.cast_ofNat_Int, g0, s0, g1, s1, g2, s2, g3, s3, g4, s4, g5, s5, g6, s6, g7, s7, g8, s8, g9, s9, g10, s10, g11, s11, g12, s12, g13, s13, g14, s14, g15, s15, g16, s16, g17, s17, g18, s18, g19, s19, g20, s20, g21, s21, g22, s22, g23, s23, g24, s24, g25, s25, g26, s26, g27, s27, g28, s28, g29, s29, g30, s30, g31, s31, g32, s32, g33, s33, g34, s34, g35, s35, g36, s36, g37, s37, g38, s38, g39, s39] at e1 e3 nz
  unfold ups
  cases e5 : A.all (inR n) <;> simp only [F3, nn3, runK, sSqK, sIfK, sIfP, tOrK, tAndK, tNotK, tValK, liE, liT, liL, liI, liO, pNotT, pT, p1, p2, pK, pCons, pNil, pYes, pSeq, pAndE, pOrE, pNotE, pAndT, pOrT, pChain, pIf, pTup, pLst, pLc, pDic, pR1, pR2, sRetP, sRetK, sAsP, sAsK, sAoP, sAoK, sDrpK, sPar2K, sPar3K, sForP, sForK, sAppC, mAndK, mOrK, mNotK, mIfK, lConsK, mTupK, mLstK, mMK, m1K, m2K, mLcK, mCallP, mCallK, in_nil, in_cons, re_zero, re_succ, bk_ok, bk_dr, opK_some, opK_none, ooK_some, ooK_none, bK_t, bK_f, hd_cons, tl_cons, s0_cons, st_cons, fl_nx, fl_rt, fl_bk, fl_ct, rt_rt, rt_nx, dB_bl, dI_int, sq_tup, sq_lst, at_tup, al_nil, al_cons, nm_set, isi_tup_t, nh_int, nh_tup, nh_lst, nh_bl, nh_all_nil, nh_all_cons, ln_nil, ln_cons, lc_nil, lc_cons, lk_nil, lk_cons, fo_nil, fo_cons, all_l, any_l, allB_nil, anyB_nil, allB_cons, anyB_cons, ix_t0, ix_l0, ix_l1, ix_t1, ix_t2, ix_t3, pSl, pNo, pPart, pEnum, skip_nx, seq_k, fclk_eq, fck_eq, len_t, len_l, eq_i, ge_i, le_i, lt_i, gt_i, add_i, sub_i, int_i, chl, chle, id_eq, ble_ok, Nat.reduceAdd, List.length_cons, List.length_nil, decide_true, decide_false, Bool.not_true, Bool.not_false, Nat.zero_add, Nat.reduceLeDiff, Int.cast_ofNat_Int, g0, s0, g1, s1, g2, s2, g3, s3, g4, s4, g5, s5, g6, s6, g7, s7, g8, s8, g9, s9, g10, s10, g11, s11, g12, s12, g13, s13, g14, s14, g15, s15, g16, s16, g17, s17, g18, s18, g19, s19, g20, s20, g21, s21, g22, s22, g23, s23, g24, s24, g25, s25, g26, s26, g27, s27, g28, s28, g29, s29, g30, s30, g31, s31, g32, s32, g33, s33, g34, s34, g35, s35, g36, s36, g37, s37, g38, s38, g39, s39, pZip, t2 h1 h2, nz, e1, e2, e5, sl, z, e3, e4] <;> rfl
theorem lot_ok {n : Int} {A : List Int} (L : Lot n A) : (A.all (inR n) && ups A) = true := by
  rw [Bool.and_eq_true]
  constructor
  · rw [List.all_eq_true]
    intro a ha
    have := L.rg a ha
    unfold inR
    rw [decide_eq_true (by omega), decide_eq_true (by omega)]
    rfl
  · have : ∀ l : List Int, l.Pairwise (· < ·) → ups l = true := by
      intro l
      induction l with
      | nil => intro _; rfl
      | cons x r ih =>
        intro h
        have h1 := List.pairwise_cons.mp h
        cases r with
        | nil => rfl
        | cons y r =>
          show (decide (x < y) && ups (y :: r)) = true
          rw [ih h1.2, decide_eq_true (h1.1 y (by simp))]
          rfl
    exact this A L.up
theorem t4 {n : Int} {A : List Int} (L : Lot n A) : F4 [.int n, tZ A] = .ok .non := by
  have e := t3 L.n1 L.n2 (by have := len12 L; omega) L.ne
  rw [lot_ok L] at e
  simp only [F4, nn4, runK, sSqK, sIfK, sIfP, tOrK, tAndK, tNotK, tValK, liE, liT, liL, liI, liO, pNotT, pT, p1, p2, pK, pCons, pNil, pYes, pSeq, pAndE, pOrE, pNotE, pAndT, pOrT, pChain, pIf, pTup, pLst, pLc, pDic, pR1, pR2, sRetP, sRetK, sAsP, sAsK, sAoP, sAoK, sDrpK, sPar2K, sPar3K, sForP, sForK, sAppC, mAndK, mOrK, mNotK, mIfK, lConsK, mTupK, mLstK, mMK, m1K, m2K, mLcK, mCallP, mCallK, in_nil, in_cons, re_zero, re_succ, bk_ok, bk_dr, opK_some, opK_none, ooK_some, ooK_none, bK_t, bK_f, hd_cons, tl_cons, s0_cons, st_cons, fl_nx, fl_rt, fl_bk, fl_ct, rt_rt, rt_nx, dB_bl, dI_int, sq_tup, sq_lst, at_tup, al_nil, al_cons, nm_set, isi_tup_t, nh_int, nh_tup, nh_lst, nh_bl, nh_all_nil, nh_all_cons, ln_nil, ln_cons, lc_nil, lc_cons, lk_nil, lk_cons, fo_nil, fo_cons, all_l, any_l, allB_nil, anyB_nil, allB_cons, anyB_cons, ix_t0, ix_l0, ix_l1, ix_t1, ix_t2, ix_t3, pSl, pNo, pPart, pEnum, skip_nx, seq_k, fclk_eq, fck_eq, len_t, len_l, eq_i, ge_i, le_i, lt_i, gt_i, add_i, sub_i, int_i, chl, chle, id_eq, ble_ok, Nat.reduceAdd, List.length_cons, List.length_nil, decide_true, decide_false, Bool.not_true, Bool.not_false, Nat.zero_add, Nat.reduceLeDiff, Int.cast_ofNat_Int, g0, s0, g1, s1, g2, s2, g3, s3, g4, s4, g5, s5, g6, s6, g7, s7, g8, s8, g9, s9, g10, s10, g11, s11, g12, s12, g13, s13, g14, s14, g15, s15, g16, s16, g17, s17, g18, s18, g19, s19, g20, s20, g21, s21, g22, s22, g23, s23, g24, s24, g25, s25, g26, s26, g27, s27, g28, s28, g29, s29, g30, s30, g31, s31, g32, s32, g33, s33, g34, s34, g35, s35, g36, s36, g37, s37, g38, s38, g39, s39, t2 L.n1 L.n2, e]
/-! sums -/
def inc (l : List Int) (j : Nat) : List Int := l.set j (l.getD j 0 + 1)
def at_ (n a b : Int) : Nat := ((a + b).fmod n).toNat
def sumsL (n : Int) (A B : List Int) : List Int := A.foldl (fun l a => B.foldl (fun l b => inc l (at_ n a b)) l) (List.replicate n.toNat 0)
theorem inc_len (l : List Int) (j : Nat) : (inc l j).length = l.length := List.length_set
theorem fold_len (f : Int → Nat) : ∀ (B : List Int) (l : List Int), (B.foldl (fun l b => inc l (f b)) l).length = l.length
  | [], l => rfl
  | b :: B, l => by
    rw [List.foldl_cons, fold_len f B, inc_len]
noncomputable abbrev bInc : MS := (sSqK (sAugSP (fun i j => i + j) g3 s3 (p2 oModK (p1 oInt (p2 oAddK g4 g5)) g0) (pK (.int 1))) sSkip)
theorem bInc_ok {n a b : Int} {l : List Int} {u v : Option D} (hn : 1 ≤ n) (hl : l.length = n.toNat) : bInc [some (.int n), u, v, some (.lst (l.map D.int)), some (.int a), some (.int b)] = .ok (.nx [some (.int n), u, v, some (.lst ((inc l (at_ n a b)).map D.int)), some (.int a), some (.int b)]) := by
  have m0 := Int.fmod_nonneg_of_pos (a + b) (show 0 < n by omega)
  have m1 := Int.fmod_lt_of_pos (a + b) (show 0 < n by omega)
  have hj : at_ n a b < l.length := by
    unfold at_
    omega
  have e1 : (p2 oModK (p1 oInt (p2 oAddK g4 g5)) g0) [some (.int n), u, v, some (.lst (l.map D.int)), some (.int a), some (.int b)] = some (.int ((at_ n a b : Nat) : Int)) := by
    simp only [runK, sSqK, sIfK, sIfP, tOrK, tAndK, tNotK, tValK, liE, liT, liL, liI, liO, pNotT, pT, p1, p2, pK, pCons, pNil, pYes, pSeq, pAndE, pOrE, pNotE, pAndT, pOrT, pChain, pIf, pTup, pLst, pLc, pDic, pR1, pR2, sRetP, sRetK, sAsP, sAsK, sAoP, sAoK, sDrpK, sPar2K, sPar3K, sForP, sForK, sAppC, mAndK, mOrK, mNotK, mIfK, lConsK, mTupK, mLstK, mMK, m1K, m2K, mLcK, mCallP, mCallK, in_nil, in_cons, re_zero, re_succ, bk_ok, bk_dr, opK_some, opK_none, ooK_some, ooK_none, bK_t, bK_f, hd_cons, tl_cons, s0_cons, st_cons, fl_nx, fl_rt, fl_bk, fl_ct, rt_rt, rt_nx, dB_bl, dI_int, sq_tup, sq_lst, at_tup, al_nil, al_cons, nm_set, isi_tup_t, nh_int, nh_tup, nh_lst, nh_bl, nh_all_nil, nh_all_cons, ln_nil, ln_cons, lc_nil, lc_cons, lk_nil, lk_cons, fo_nil, fo_cons, all_l, any_l, allB_nil, anyB_nil, allB_cons, anyB_cons, ix_t0, ix_l0, ix_l1, ix_t1, ix_t2, ix_t3, pSl, pNo, pPart, pEnum, skip_nx, seq_k, fclk_eq, fck_eq, len_t, len_l, eq_i, ge_i, le_i, lt_i, gt_i, add_i, sub_i, int_i, chl, chle, id_eq, ble_ok, Nat.reduceAdd, List.length_cons, List.length_nil, decide_true, decide_false, Bool.not_true, Bool.not_false, Nat.zero_add, Nat.reduceLeDiff, Int.cast_ofNat_Int, g0, s0, g1, s1, g2, s2, g3, s3, g4, s4, g5, s5, g6, s6, g7, s7, g8, s8, g9, s9, g10, s10, g11, s11, g12, s12, g13, s13, g14, s14, g15, s15, g16, s16, g17, s17, g18, s18, g19, s19, g20, s20, g21, s21, g22, s22, g23, s23, g24, s24, g25, s25, g26, s26, g27, s27, g28, s28, g29, s29, g30, s30, g31, s31, g32, s32, g33, s33, g34, s34, g35, s35, g36, s36, g37, s37, g38, s38, g39, s39, mod_i (show n ≠ 0 by omega)]
    unfold at_
    rw [Int.toNat_of_nonneg m0]
  refine (sq_nx (st' := [some (.int n), u, v, some (.lst ((inc l (at_ n a b)).map D.int)), some (.int a), some (.int b)]) ?_).trans rfl
  unfold sAugSP
  rw [show g3 [some (.int n), u, v, some (.lst (l.map D.int)), some (.int a), some (.int b)] = some (.lst (l.map D.int)) from rfl, opK_some, e1, opK_some]
  show opK (ixK (cntK (l.map D.int) 0) ((at_ n a b : Nat) : Int)) (fun j => opK (nthK (l.map D.int) j) fun d => inK d fun x => opK (some (D.int 1)) fun z => inK z fun w => fcIK (x + w) fun v' => putK (.int v') (l.map D.int) j fun es => R.ok (Fl.nx (s3 (some (.lst es)) [some (.int n), u, v, some (.lst (l.map D.int)), some (.int a), some (.int b)]))) = _
  have ix : ixK (cntK (l.map D.int) 0) ((at_ n a b : Nat) : Int) = some (at_ n a b) := by
    rw [cntK_eq, Nat.zero_add, List.length_map]
    show bK (Nat.ble (at_ n a b).succ l.length) (some (at_ n a b)) none = _
    rw [Nat.ble_eq_true_of_le hj]
    rfl
  have nt : nthK (l.map D.int) (at_ n a b) = some (.int (l.getD (at_ n a b) 0)) := by
    rw [nthK_eq, List.getElem?_map, List.getElem?_eq_getElem hj, List.getD_eq_getElem?_getD, List.getElem?_eq_getElem hj]
    rfl
  rw [ix, opK_some, nt, opK_some]
  show fcIK (l.getD (at_ n a b) 0 + 1) (fun v' => putK (.int v') (l.map D.int) (at_ n a b) fun es => R.ok (Fl.nx (s3 (some (.lst es)) [some (.int n), u, v, some (.lst (l.map D.int)), some (.int a), some (.int b)]))) = _
  rw [fcIK_eq, putK_eq]
  unfold inc
  rw [List.map_set]
  rfl
end EV
set_option maxHeartbeats 0
namespace EV
open PySem PySem.Spec PyProof.Rows L2 RZ
theorem upto12 {n : Int} (h1 : 1 ≤ n) (h2 : n ≤ 12) : n = 1 ∨ n = 2 ∨ n = 3 ∨ n = 4 ∨ n = 5 ∨ n = 6 ∨ n = 7 ∨ n = 8 ∨ n = 9 ∨ n = 10 ∨ n = 11 ∨ n = 12 := by omega
theorem repL {n : Int} (h1 : 1 ≤ n) (h2 : n ≤ 12) (z : Int) : oRepLK (.lst [.int z]) (.int n) = some (.lst ((List.replicate n.toNat z).map D.int)) := by
  rcases upto12 h1 h2 with rfl | rfl | rfl | rfl | rfl | rfl | rfl | rfl | rfl | rfl | rfl | rfl <;> rfl
theorem repT {n : Int} (h1 : 1 ≤ n) (h2 : n ≤ 12) (z : Int) : oMulK (.tup [.int z]) (.int n) = some (tZ (List.replicate n.toNat z)) := by
  rcases upto12 h1 h2 with rfl | rfl | rfl | rfl | rfl | rfl | rfl | rfl | rfl | rfl | rfl | rfl <;> rfl
theorem in_loop {n a : Int} {u v : Option D} (hn : 1 ≤ n) : ∀ (B l : List Int) (x : Option D), l.length = n.toNat → ∃ y, forK (aNm s5) bInc (B.map D.int) [some (.int n), u, v, some (.lst (l.map D.int)), some (.int a), x] = .ok (.nx [some (.int n), u, v, some (.lst ((B.foldl (fun l b => inc l (at_ n a b)) l).map D.int)), some (.int a), y])
  | [], l, x, _ => ⟨x, rfl⟩
  | b :: B, l, x, hl => by
    obtain ⟨y, e⟩ := in_loop (a := a) (u := u) (v := v) hn B (inc l (at_ n a b)) (some (.int b)) (by rw [inc_len]; exact hl)
    refine ⟨y, ?_⟩
    rw [List.map_cons, fo_cons]
    show bindK (bInc [some (.int n), u, v, some (.lst (l.map D.int)), some (.int a), some (.int b)]) _ = _
    rw [bInc_ok hn hl, bk_ok, fl_nx, e]
    rfl
noncomputable abbrev bOut : MS := (sSqK (sForP (pSeq g2) (aNm s5) bInc) sSkip)
theorem out_loop {n : Int} {u : Option D} {B : List Int} (hn : 1 ≤ n) : ∀ (A l : List Int) (x y : Option D), l.length = n.toNat → ∃ x2 y2, forK (aNm s4) bOut (A.map D.int) [some (.int n), u, some (tZ B), some (.lst (l.map D.int)), x, y] = .ok (.nx [some (.int n), u, some (tZ B), some (.lst ((A.foldl (fun l a => B.foldl (fun l b => inc l (at_ n a b)) l) l).map D.int)), x2, y2])
  | [], l, x, y, _ => ⟨x, y, rfl⟩
  | a :: A, l, x, y, hl => by
    obtain ⟨y1, e1⟩ := in_loop (a := a) (u := u) (v := some (tZ B)) hn B l y hl
    obtain ⟨x2, y2, e⟩ := out_loop (u := u) (B := B) hn A (B.foldl (fun l b => inc l (at_ n a b)) l) (some (.int a)) y1 (by rw [fold_len]; exact hl)
    refine ⟨x2, y2, ?_⟩
    have e2 : bOut [some (.int n), u, some (tZ B), some (.lst (l.map D.int)), some (.int a), y] = .ok (.nx [some (.int n), u, some (tZ B), some (.lst ((B.foldl (fun l b => inc l (at_ n a b)) l).map D.int)), some (.int a), y1]) := (sq_nx (b := sSkip) (show sForP (pSeq g2) (aNm s5) bInc [some (.int n), u, some (tZ B), some (.lst (l.map D.int)), some (.int a), y] = _ from e1)).trans rfl
    rw [List.map_cons, fo_cons]
    show bindK (bOut [some (.int n), u, some (tZ B), some (.lst (l.map D.int)), some (.int a), y]) _ = _
    rw [e2, bk_ok, fl_nx, e]
    rfl
theorem t15 {n : Int} (h1 : 1 ≤ n) (h2 : n ≤ 12) (A B : List Int) : F15 [.int n, tZ A, tZ B] = .ok (.lst ((sumsL n A B).map D.int)) := by
  obtain ⟨x, y, e⟩ := out_loop (u := some (tZ A)) (B := B) h1 A (List.replicate n.toNat 0) none none List.length_replicate
  unfold bOut bInc at e
  simp only [runK, sSqK, sIfK, sIfP, tOrK, tAndK, tNotK, tValK, liE, liT, liL, liI, liO, pNotT, pT, p1, p2, pK, pCons, pNil, pYes, pSeq, pAndE, pOrE, pNotE, pAndT, pOrT, pChain, pIf, pTup, pLst, pLc, pDic, pR1, pR2, sRetP, sRetK, sAsP, sAsK, sAoP, sAoK, sDrpK, sPar2K, sPar3K, sForP, sForK, sAppC, mAndK, mOrK, mNotK, mIfK, lConsK, mTupK, mLstK, mMK, m1K, m2K, mLcK, mCallP, mCallK, in_nil, in_cons, re_zero, re_succ, bk_ok, bk_dr, opK_some, opK_none, ooK_some, ooK_none, bK_t, bK_f, hd_cons, tl_cons, s0_cons, st_cons, fl_nx, fl_rt, fl_bk, fl_ct, rt_rt, rt_nx, dB_bl, dI_int, sq_tup, sq_lst, at_tup, al_nil, al_cons, nm_set, isi_tup_t, nh_int, nh_tup, nh_lst, nh_bl, nh_all_nil, nh_all_cons, ln_nil, ln_cons, lc_nil, lc_cons, lk_nil, lk_cons, fo_nil, fo_cons, all_l, any_l, allB_nil, anyB_nil, allB_cons, anyB_cons, ix_t0, ix_l0, ix_l1, ix_t1, ix_t2, ix_t3, pSl, pNo, pPart, pEnum, skip_nx, seq_k, fclk_eq, fck_eq, len_t, len_l, eq_i, ge_i, le_i, lt_i, gt_i, add_i, sub_i, int_i, chl, chle, id_eq, ble_ok, Nat.reduceAdd, List.length_cons, List.length_nil, decide_true, decide_false, Bool.not_true, Bool.not_false, Nat.zero_add, Nat.reduceLeDiff, Int.cast_ofNat_Int, g0, s0, g1, s1, g2, s2, g3, s3, g4, s4, g5, s5, g6, s6, g7, s7, g8, s8, g9, s9, g10, s10, g11, s11, g12, s12, g13, s13, g14, s14, g15, s15, g16, s16, g17, s17, g18, s18, g19, s19, g20, s20, g21, s21, g22, s22, g23, s23, g24, s24, g25, s25, g26, s26, g27, s27, g28, s28, g29, s29, g30, s30, g31, s31, g32, s32, g33, s33, g34, s34, g35, s35, g36, s36, g37, s37, g38, s38, g39, s39] at e
  simp only [F15, nn15, runK, sSqK, sIfK, sIfP, tOrK, tAndK, tNotK, tValK, liE, liT, liL, liI, liO, pNotT, pT, p1, p2, pK, pCons, pNil, pYes, pSeq, pAndE, pOrE, pNotE, pAndT, pOrT, pChain, pIf, pTup, pLst, pLc, pDic, pR1, pR2, sRetP, sRetK, sAsP, sAsK, sAoP, sAoK, sDrpK, sPar2K, sPar3K, sForP, sForK, sAppC, mAndK, mOrK, mNotK, mIfK, lConsK, mTupK, mLstK, mMK, m1K, m2K, mLcK, mCallP, mCallK, in_nil, in_cons, re_zero, re_succ, bk_ok, bk_dr, opK_some, opK_none, ooK_some, ooK_none, bK_t, bK_f, hd_cons, tl_cons, s0_cons, st_cons, fl_nx, fl_rt, fl_bk, fl_ct, rt_rt, rt_nx, dB_bl, dI_int, sq_tup, sq_lst, at_tup, al_nil, al_cons, nm_set, isi_tup_t, nh_int, nh_tup, nh_lst, nh_bl, nh_all_nil, nh_all_cons, ln_nil, ln_cons, lc_nil, lc_cons, lk_nil, lk_cons, fo_nil, fo_cons, all_l, any_l, allB_nil, anyB_nil, allB_cons, anyB_cons, ix_t0, ix_l0, ix_l1, ix_t1, ix_t2, ix_t3, pSl, pNo, pPart, pEnum, skip_nx, seq_k, fclk_eq, fck_eq, len_t, len_l, eq_i, ge_i, le_i, lt_i, gt_i, add_i, sub_i, int_i, chl, chle, id_eq, ble_ok, Nat.reduceAdd, List.length_cons, List.length_nil, decide_true, decide_false, Bool.not_true, Bool.not_false, Nat.zero_add, Nat.reduceLeDiff, Int.cast_ofNat_Int, g0, s0, g1, s1, g2, s2, g3, s3, g4, s4, g5, s5, g6, s6, g7, s7, g8, s8, g9, s9, g10, s10, g11, s11, g12, s12, g13, s13, g14, s14, g15, s15, g16, s16, g17, s17, g18, s18, g19, s19, g20, s20, g21, s21, g22, s22, g23, s23, g24, s24, g25, s25, g26, s26, g27, s27, g28, s28, g29, s29, g30, s30, g31, s31, g32, s32, g33, s33, g34, s34, g35, s35, g36, s36, g37, s37, g38, s38, g39, s39, mMK, repL h1 h2, e]
  rfl
theorem t5 {n : Int} {A B : List Int} (LA : Lot n A) (LB : Lot n B) : F5 [.int n, tZ A, tZ B] = .ok (tZ (sumsL n A B)) := by
  obtain ⟨x, y, e⟩ := out_loop (u := some (tZ A)) (B := B) LA.n1 A (List.replicate n.toNat 0) none none List.length_replicate
  unfold bOut bInc at e
  simp only [runK, sSqK, sIfK, sIfP, tOrK, tAndK, tNotK, tValK, liE, liT, liL, liI, liO, pNotT, pT, p1, p2, pK, pCons, pNil, pYes, pSeq, pAndE, pOrE, pNotE, pAndT, pOrT, pChain, pIf, pTup, pLst, pLc, pDic, pR1, pR2, sRetP, sRetK, sAsP, sAsK, sAoP, sAoK, sDrpK, sPar2K, sPar3K, sForP, sForK, sAppC, mAndK, mOrK, mNotK, mIfK, lConsK, mTupK, mLstK, mMK, m1K, m2K, mLcK, mCallP, mCallK, in_nil, in_cons, re_zero, re_succ, bk_ok, bk_dr, opK_some, opK_none, ooK_some, ooK_none, bK_t, bK_f, hd_cons, tl_cons, s0_cons, st_cons, fl_nx, fl_rt, fl_bk, fl_ct, rt_rt, rt_nx, dB_bl, dI_int, sq_tup, sq_lst, at_tup, al_nil, al_cons, nm_set, isi_tup_t, nh_int, nh_tup, nh_lst, nh_bl, nh_all_nil, nh_all_cons, ln_nil, ln_cons, lc_nil, lc_cons, lk_nil, lk_cons, fo_nil, fo_cons, all_l, any_l, allB_nil, anyB_nil, allB_cons, anyB_cons, ix_t0, ix_l0, ix_l1, ix_t1, ix_t2, ix_t3, pSl, pNo, pPart, pEnum, skip_nx, seq_k, fclk_eq, fck_eq, len_t, len_l, eq_i, ge_i, le_i, lt_i, gt_i, add_i, sub_i, int_i, chl, chle, id_eq, ble_ok, Nat.reduceAdd, List.length_cons, List.length_nil, decide_true, decide_false, Bool.not_true, Bool.not_false, Nat.zero_add, Nat.reduceLeDiff, Int.cast_ofNat_Int, g0, s0, g1, s1, g2, s2, g3, s3, g4, s4, g5, s5, g6, s6, g7, s7, g8, s8, g9, s9, g10, s10, g11, s11, g12, s12, g13, s13, g14, s14, g15, s15, g16, s16, g17, s17, g18, s18, g19, s19, g20, s20, g21, s21, g22, s22, g23, s23, g24, s24, g25, s25, g26, s26, g27, s27, g28, s28, g29, s29, g30, s30, g31, s31, g32, s32, g33, s33, g34, s34, g35, s35, g36, s36, g37, s37, g38, s38, g39, s39] at e
  simp only [F5, nn5, runK, sSqK, sIfK, sIfP, tOrK, tAndK, tNotK, tValK, liE, liT, liL, liI, liO, pNotT, pT, p1, p2, pK, pCons, pNil, pYes, pSeq, pAndE, pOrE, pNotE, pAndT, pOrT, pChain, pIf, pTup, pLst, pLc, pDic, pR1, pR2, sRetP, sRetK, sAsP, sAsK, sAoP, sAoK, sDrpK, sPar2K, sPar3K, sForP, sForK, sAppC, mAndK, mOrK, mNotK, mIfK, lConsK, mTupK, mLstK, mMK, m1K, m2K, mLcK, mCallP, mCallK, in_nil, in_cons, re_zero, re_succ, bk_ok, bk_dr, opK_some, opK_none, ooK_some, ooK_none, bK_t, bK_f, hd_cons, tl_cons, s0_cons, st_cons, fl_nx, fl_rt, fl_bk, fl_ct, rt_rt, rt_nx, dB_bl, dI_int, sq_tup, sq_lst, at_tup, al_nil, al_cons, nm_set, isi_tup_t, nh_int, nh_tup, nh_lst, nh_bl, nh_all_nil, nh_all_cons, ln_nil, ln_cons, lc_nil, lc_cons, lk_nil, lk_cons, fo_nil, fo_cons, all_l, any_l, allB_nil, anyB_nil, allB_cons, anyB_cons, ix_t0, ix_l0, ix_l1, ix_t1, ix_t2, ix_t3, pSl, pNo, pPart, pEnum, skip_nx, seq_k, fclk_eq, fck_eq, len_t, len_l, eq_i, ge_i, le_i, lt_i, gt_i, add_i, sub_i, int_i, chl, chle, id_eq, ble_ok, Nat.reduceAdd, List.length_cons, List.length_nil, decide_true, decide_false, Bool.not_true, Bool.not_false, Nat.zero_add, Nat.reduceLeDiff, Int.cast_ofNat_Int, g0, s0, g1, s1, g2, s2, g3, s3, g4, s4, g5, s5, g6, s6, g7, s7, g8, s8, g9, s9, g10, s10, g11, s11, g12, s12, g13, s13, g14, s14, g15, s15, g16, s16, g17, s17, g18, s18, g19, s19, g20, s20, g21, s21, g22, s22, g23, s23, g24, s24, g25, s25, g26, s26, g27, s27, g28, s28, g29, s29, g30, s30, g31, s31, g32, s32, g33, s33, g34, s34, g35, s35, g36, s36, g37, s37, g38, s38, g39, s39, t4 LA, t4 LB, repL LA.n1 LA.n2, e, oTuple]
  rfl
theorem eqfZ : ∀ (n : Nat) (A B : List Int), eqs (eqf (n + 1)) (A.map D.int) (B.map D.int) = decide (A = B)
  | n, [], [] => rfl
  | n, [], b :: B => rfl
  | n, a :: A, [] => rfl
  | n, a :: A, b :: B => by
    show (match decide (a = b) with | true => eqs (eqf (n + 1)) (A.map D.int) (B.map D.int) | false => false) = _
    rw [eqfZ n A B]
    by_cases h : a = b
    · subst h
      rw [decide_eq_true rfl]
      exact decide_eq_decide.mpr ⟨fun h => by rw [h], fun h => (List.cons.inj h).2⟩
    · rw [decide_eq_false h]
      exact (decide_eq_false fun q => h (List.cons.inj q).1).symm
theorem eqZ (f : Bool → Bool) (A B : List Int) : oEqFK f (tZ A) (tZ B) = some (.bl (f (decide (A = B)))) := by
  rw [oEqFK_eq]
  show slowEq f (tZ A) (tZ B) = _
  unfold slowEq
  rw [dokZ, dokZ]
  show some (D.bl (f (eqs (eqf 59) (A.map D.int) (B.map D.int)))) = _
  rw [eqfZ]
theorem eqLZ (f : Bool → Bool) (A B : List Int) : oEqFK f (.lst (A.map D.int)) (.lst (B.map D.int)) = some (.bl (f (decide (A = B)))) := by
  rw [oEqFK_eq]
  show slowEq f (.lst (A.map D.int)) (.lst (B.map D.int)) = _
  unfold slowEq
  rw [dok_l (dok_ints A), dok_l (dok_ints B)]
  show some (D.bl (f (eqs (eqf 59) (A.map D.int) (B.map D.int)))) = _
  rw [eqfZ]
def fillsB (n : Int) (A B : List Int) : Bool := decide (sumsL n A B = List.replicate n.toNat 1)
theorem t6 {n : Int} {A B : List Int} (LA : Lot n A) (LB : Lot n B) : F6 [.int n, tZ A, tZ B] = .ok (.bl (fillsB n A B)) := by
  simp only [F6, nn6, runK, sSqK, sIfK, sIfP, tOrK, tAndK, tNotK, tValK, liE, liT, liL, liI, liO, pNotT, pT, p1, p2, pK, pCons, pNil, pYes, pSeq, pAndE, pOrE, pNotE, pAndT, pOrT, pChain, pIf, pTup, pLst, pLc, pDic, pR1, pR2, sRetP, sRetK, sAsP, sAsK, sAoP, sAoK, sDrpK, sPar2K, sPar3K, sForP, sForK, sAppC, mAndK, mOrK, mNotK, mIfK, lConsK, mTupK, mLstK, mMK, m1K, m2K, mLcK, mCallP, mCallK, in_nil, in_cons, re_zero, re_succ, bk_ok, bk_dr, opK_some, opK_none, ooK_some, ooK_none, bK_t, bK_f, hd_cons, tl_cons, s0_cons, st_cons, fl_nx, fl_rt, fl_bk, fl_ct, rt_rt, rt_nx, dB_bl, dI_int, sq_tup, sq_lst, at_tup, al_nil, al_cons, nm_set, isi_tup_t, nh_int, nh_tup, nh_lst, nh_bl, nh_all_nil, nh_all_cons, ln_nil, ln_cons, lc_nil, lc_cons, lk_nil, lk_cons, fo_nil, fo_cons, all_l, any_l, allB_nil, anyB_nil, allB_cons, anyB_cons, ix_t0, ix_l0, ix_l1, ix_t1, ix_t2, ix_t3, pSl, pNo, pPart, pEnum, skip_nx, seq_k, fclk_eq, fck_eq, len_t, len_l, eq_i, ge_i, le_i, lt_i, gt_i, add_i, sub_i, int_i, chl, chle, id_eq, ble_ok, Nat.reduceAdd, List.length_cons, List.length_nil, decide_true, decide_false, Bool.not_true, Bool.not_false, Nat.zero_add, Nat.reduceLeDiff, Int.cast_ofNat_Int, g0, s0, g1, s1, g2, s2, g3, s3, g4, s4, g5, s5, g6, s6, g7, s7, g8, s8, g9, s9, g10, s10, g11, s11, g12, s12, g13, s13, g14, s14, g15, s15, g16, s16, g17, s17, g18, s18, g19, s19, g20, s20, g21, s21, g22, s22, g23, s23, g24, s24, g25, s25, g26, s26, g27, s27, g28, s28, g29, s29, g30, s30, g31, s31, g32, s32, g33, s33, g34, s34, g35, s35, g36, s36, g37, s37, g38, s38, g39, s39, t5 LA LB, repT LA.n1 LA.n2, eqZ]
  rfl
end EV
set_option maxHeartbeats 0
namespace EV
open PySem PySem.Spec PyProof.Rows L2 RZ
def sh (n s a : Int) : Int := (a + s).fmod n
def stayB (n : Int) (A : List Int) (s : Int) : Bool := decide (sortR gtI (A.map (sh n s)) = A)
def moved (n s : Int) (A : List Int) : List Int := sortR gtI (A.map (sh n s))
theorem sr_t (xs : List D) : oSortK (.tup xs) = sortOpK xs := rfl
theorem sr_l (xs : List D) : oSortK (.lst xs) = sortOpK xs := rfl
theorem sh_rg {n : Int} (hn : 1 ≤ n) (s a : Int) : 0 ≤ sh n s a ∧ sh n s a < n := ⟨Int.fmod_nonneg_of_pos _ (by omega), Int.fmod_lt_of_pos _ (by omega)⟩
theorem fm {n : Int} (hn : 1 ≤ n) (a : Int) : a.fmod n = a % n := Int.fmod_eq_emod_of_nonneg _ (by omega)
theorem sh_sh {n : Int} (hn : 1 ≤ n) (s t a : Int) : sh n t (sh n s a) = (a + s + t) % n := by
  unfold sh
  rw [fm hn, fm hn, Int.emod_add_emod]
theorem sh_comm {n : Int} (hn : 1 ≤ n) (s t a : Int) : sh n t (sh n s a) = sh n s (sh n t a) := by
  rw [sh_sh hn, sh_sh hn, show a + s + t = a + t + s by omega]
theorem sh_back {n : Int} (hn : 1 ≤ n) (s a : Int) (h : 0 ≤ a) (h2 : a < n) : sh n (n - s) (sh n s a) = a := by
  rw [sh_sh hn, show a + s + (n - s) = a + n by omega, Int.add_emod_right, Int.emod_eq_of_lt h h2]
theorem map_back {n : Int} (hn : 1 ≤ n) (s : Int) (A : List Int) (h : ∀ a ∈ A, 0 ≤ a ∧ a < n) : (A.map (sh n s)).map (sh n (n - s)) = A := by
  rw [map_map2]
  conv => rhs; rw [← List.map_id A]
  exact List.map_congr_left fun a ha => sh_back hn s a (h a ha).1 (h a ha).2
theorem up_of {A : List Int} (h : A.Pairwise (· < ·)) : sortR gtI A = A := by
  refine sortR_id ?_
  induction A with
  | nil => trivial
  | cons x r ih =>
    have h1 := List.pairwise_cons.mp h
    refine ⟨fun y hy => ?_, ih h1.2⟩
    have : y ∈ r := List.mem_of_mem_head? (by rw [hy]; rfl)
    exact decide_eq_false (by have := h1.1 y this; omega)
theorem stay_iff {n : Int} {A : List Int} (s : Int) (h : A.Pairwise (· < ·)) : sortR gtI (A.map (sh n s)) = A ↔ (A.map (sh n s)).Perm A := by
  constructor
  · intro e
    have := sortR_perm (gt := gtI) (A.map (sh n s))
    rw [e] at this
    exact this.symm
  · intro p
    rw [sortR_perm_eq ordI p, up_of h]
theorem sorted_lt : ∀ {l : List Int}, l.Nodup → (sortR gtI l).Pairwise (· < ·) := by
  have ins : ∀ (x : Int) (l : List Int), l.Pairwise (· < ·) → x ∉ l → (insR gtI x l).Pairwise (· < ·) := by
    intro x l
    induction l with
    | nil => intro _ _; exact List.pairwise_singleton _ _
    | cons y r ih =>
      intro h hx
      have h1 := List.pairwise_cons.mp h
      have hx2 : x ≠ y ∧ x ∉ r := ⟨fun e => hx (by simp [e]), fun e => hx (by simp [e])⟩
      show (match gtI x y with | true => y :: insR gtI x r | false => x :: y :: r).Pairwise (· < ·)
      by_cases e : y < x
      · rw [show gtI x y = true from decide_eq_true e]
        refine List.pairwise_cons.mpr ⟨fun z hz => ?_, ih h1.2 hx2.2⟩
        rcases mem_insR.mp hz with rfl | hz
        · exact e
        · exact h1.1 z hz
      · rw [show gtI x y = false from decide_eq_false e]
        refine List.pairwise_cons.mpr ⟨fun z hz => ?_, h⟩
        rcases List.mem_cons.mp hz with rfl | hz
        · omega
        · have := h1.1 z hz; omega
  intro l
  induction l with
  | nil => intro _; exact List.Pairwise.nil
  | cons x r ih =>
    intro h
    have h1 := List.nodup_cons.mp h
    exact ins x _ (ih h1.2) fun q => h1.1 (mem_sortR.mp q)
theorem Lot.nodup {n : Int} {A : List Int} (L : Lot n A) : A.Nodup := L.up.imp fun h e => by omega
theorem Lot.moved {n : Int} {A : List Int} (L : Lot n A) (s : Int) : Lot n (EV.moved n s A) where
  n1 := L.n1
  n2 := L.n2
  ne := by
    intro e
    have := sortR_len (gt := gtI) (l := A.map (sh n s))
    rw [show sortR gtI (A.map (sh n s)) = [] from e, List.length_map] at this
    exact L.ne (List.length_eq_zero_iff.mp this.symm)
  rg a ha := by
    obtain ⟨b, _, rfl⟩ := List.mem_map.mp (mem_sortR.mp ha)
    exact sh_rg L.n1 s b
  up := by
    refine sorted_lt ?_
    refine List.pairwise_map.mpr (L.nodup.imp_of_mem fun {a b} ha hb ne e => ne ?_)
    have h1 := L.rg a ha
    have h2 := L.rg b hb
    rw [← sh_back L.n1 s a h1.1 h1.2, ← sh_back L.n1 s b h2.1 h2.2, e]
theorem stay_moved {n : Int} {A : List Int} (L : Lot n A) (by_ s : Int) : stayB n (moved n by_ A) s = stayB n A s := by
  unfold stayB
  refine decide_eq_decide.mpr ?_
  rw [stay_iff s (L.moved by_).up, stay_iff s L.up]
  have p : (moved n by_ A).Perm (A.map (sh n by_)) := sortR_perm _
  have c : (A.map (sh n by_)).map (sh n s) = (A.map (sh n s)).map (sh n by_) := by
    rw [map_map2, map_map2]
    congr 1
    funext a
    exact sh_comm L.n1 by_ s a
  constructor
  · intro h
    have h2 : ((A.map (sh n s)).map (sh n by_)).Perm (A.map (sh n by_)) := by
      rw [← c]
      exact ((p.map _).symm.trans h).trans p
    have h3 := h2.map (sh n (n - by_))
    rw [map_back L.n1 by_ A L.rg, map_back L.n1 by_ (A.map (sh n s)) (fun a ha => by
      obtain ⟨b, _, rfl⟩ := List.mem_map.mp ha
      exact sh_rg L.n1 s b)] at h3
    exact h3
  · intro h
    refine (p.map _).trans (.trans ?_ p.symm)
    rw [c]
    exact h.map _
end EV
set_option maxHeartbeats 0
namespace EV
open PySem PySem.Spec PyProof.Rows L2 RZ
/-- the hours of all pairs -/
def idx (n : Int) (A B : List Int) : List Nat := A.flatMap fun a => B.map (at_ n a)
theorem at_lt {n : Int} (hn : 1 ≤ n) (a b : Int) : at_ n a b < n.toNat := by
  have m0 := Int.fmod_nonneg_of_pos (a + b) (show 0 < n by omega)
  have m1 := Int.fmod_lt_of_pos (a + b) (show 0 < n by omega)
  unfold at_
  omega
theorem idx_lt {n : Int} (hn : 1 ≤ n) {A B : List Int} : ∀ x ∈ idx n A B, x < n.toNat := by
  intro x hx
  obtain ⟨a, _, h⟩ := List.mem_flatMap.mp hx
  obtain ⟨b, _, rfl⟩ := List.mem_map.mp h
  exact at_lt hn a b
theorem sums_fold (n : Int) (A B : List Int) : sumsL n A B = (idx n A B).foldl inc (List.replicate n.toNat 0) := by
  unfold sumsL idx
  rw [List.foldl_flatMap]
  congr 1
  funext l a
  rw [List.foldl_map]
theorem inc_get (l : List Int) (j x : Nat) (hj : j < l.length) (hx : x < l.length) : (inc l j).getD x 0 = l.getD x 0 + (if j = x then 1 else 0) := by
  unfold inc
  rw [List.getD_eq_getElem?_getD, List.getElem?_set]
  by_cases e : j = x
  · subst e
    rw [if_pos rfl, if_pos hj, if_pos rfl]
    rfl
  · rw [if_neg e, if_neg e, Int.add_zero, List.getD_eq_getElem?_getD]
theorem tally : ∀ (I : List Nat) (l : List Int) (x : Nat), (∀ j ∈ I, j < l.length) → x < l.length → (I.foldl inc l).getD x 0 = l.getD x 0 + (I.count x : Nat)
  | [], l, x, _, _ => (Int.add_zero _).symm
  | j :: I, l, x, h, hx => by
    rw [List.foldl_cons, tally I (inc l j) x (fun i hi => by rw [inc_len]; exact h i (by simp [hi])) (by rw [inc_len]; exact hx), inc_get l j x (h j (by simp)) hx, List.count_cons]
    by_cases e : j = x
    · rw [if_pos e, if_pos (by simp [e])]
      omega
    · rw [if_neg e, if_neg (by simp [e])]
      omega
theorem foldI_len : ∀ (I : List Nat) (l : List Int), (I.foldl inc l).length = l.length
  | [], l => rfl
  | j :: I, l => by rw [List.foldl_cons, foldI_len I, inc_len]
theorem sums_len (n : Int) (A B : List Int) : (sumsL n A B).length = n.toNat := by
  rw [sums_fold, foldI_len, List.length_replicate]
theorem sums_get {n : Int} (hn : 1 ≤ n) (A B : List Int) (x : Nat) (hx : x < n.toNat) : (sumsL n A B).getD x 0 = ((idx n A B).count x : Nat) := by
  rw [sums_fold, tally _ _ x (fun j hj => by rw [List.length_replicate]; exact idx_lt hn j hj) (by rw [List.length_replicate]; exact hx), List.getD_eq_getElem?_getD, List.getElem?_replicate, if_pos hx]
  exact Int.zero_add _
theorem fills_iff {n : Int} (hn : 1 ≤ n) (A B : List Int) : fillsB n A B = true ↔ (idx n A B).Perm (List.range n.toNat) := by
  unfold fillsB
  rw [decide_eq_true_eq, List.perm_iff_count]
  constructor
  · intro h x
    rw [List.count_range]
    by_cases hx : x < n.toNat
    · rw [if_pos hx]
      have := sums_get hn A B x hx
      rw [h, List.getD_eq_getElem?_getD, List.getElem?_replicate, if_pos hx] at this
      have this : (1 : Int) = ((idx n A B).count x : Nat) := this
      omega
    · rw [if_neg hx]
      exact List.count_eq_zero.mpr fun q => hx (idx_lt hn x q)
  · intro h
    refine List.ext_getElem (by rw [sums_len, List.length_replicate]) fun x h1 h2 => ?_
    have hx : x < n.toNat := by rw [sums_len] at h1; exact h1
    have e := sums_get hn A B x hx
    rw [h x, List.count_range, if_pos hx, List.getD_eq_getElem?_getD, List.getElem?_eq_getElem h1] at e
    rw [List.getElem_replicate]
    exact e
theorem at_comm (n a b : Int) : at_ n a b = at_ n b a := by
  unfold at_
  rw [Int.add_comm]
theorem idx_count (n : Int) (A B : List Int) (x : Nat) : (idx n A B).count x = (idx n B A).count x := by
  have cons_right : ∀ (A B : List Int) (b : Int), (idx n A (b :: B)).count x = (A.map (at_ n b)).count x + (idx n A B).count x := by
    intro A B b
    induction A with
    | nil => rfl
    | cons a A ih =>
      have e1 : idx n (a :: A) (b :: B) = (at_ n a b :: B.map (at_ n a)) ++ idx n A (b :: B) := rfl
      have e2 : idx n (a :: A) B = B.map (at_ n a) ++ idx n A B := rfl
      have e3 : (a :: A).map (at_ n b) = at_ n b a :: A.map (at_ n b) := rfl
      rw [e1, e2, e3, List.count_append, ih, List.count_append, List.count_cons, List.count_cons, at_comm n a b]
      omega
  induction B with
  | nil =>
    have : idx n A [] = [] := by
      unfold idx
      induction A with
      | nil => rfl
      | cons a A ih => rw [List.flatMap_cons, ih]; rfl
    rw [this]
    rfl
  | cons b B ih =>
    rw [cons_right, ih]
    show _ = (A.map (at_ n b) ++ idx n B A).count x
    rw [List.count_append]
theorem fills_comm {n : Int} (hn : 1 ≤ n) (A B : List Int) : fillsB n A B = fillsB n B A := by
  have h := fills_iff hn A B
  have h2 := fills_iff hn B A
  have p : (idx n A B).Perm (idx n B A) := List.perm_iff_count.mpr (idx_count n A B)
  have : fillsB n A B = true ↔ fillsB n B A = true := by
    rw [h, h2]
    exact ⟨fun q => p.symm.trans q, fun q => p.trans q⟩
  cases e : fillsB n A B <;> cases e2 : fillsB n B A <;> simp_all
/-- so many pairs as hours -/
theorem fills_len {n : Int} (hn : 1 ≤ n) {A B : List Int} (h : fillsB n A B = true) : A.length * B.length = n.toNat := by
  have p := ((fills_iff hn A B).mp h).length_eq
  rw [List.length_range] at p
  rw [← p]
  unfold idx
  clear p h
  induction A with
  | nil => rw [List.length_nil, Nat.zero_mul]; rfl
  | cons a A ih => rw [List.flatMap_cons, List.length_append, List.length_map, List.length_cons, Nat.add_mul, ← ih]; omega
theorem at_sh {n : Int} (hn : 1 ≤ n) (s a b : Int) : at_ n (sh n s a) b = (sh n s (at_ n a b : Nat)).toNat := by
  have m0 := Int.fmod_nonneg_of_pos (a + b) (show 0 < n by omega)
  unfold at_ sh
  rw [Int.toNat_of_nonneg m0, fm hn, fm hn, fm hn, fm hn, Int.emod_add_emod, Int.emod_add_emod, show a + s + b = a + b + s by omega]
theorem fills_moved {n : Int} {A : List Int} (L : Lot n A) (s : Int) {B : List Int} (h : fillsB n A B = true) : fillsB n (moved n s A) B = true := by
  have hn := L.n1
  rw [fills_iff hn] at h ⊢
  have p1 : (idx n (moved n s A) B).Perm (idx n (A.map (sh n s)) B) := (sortR_perm (gt := gtI) (A.map (sh n s))).flatMap_right _
  have e2 : idx n (A.map (sh n s)) B = (idx n A B).map fun x => (sh n s (x : Nat)).toNat := by
    unfold idx
    rw [List.map_flatMap, List.flatMap_map]
    congr 1
    funext a
    rw [map_map2]
    congr 1
    funext b
    exact at_sh hn s a b
  refine p1.trans ?_
  rw [e2]
  refine (h.map _).trans ?_
  rw [List.perm_iff_count]
  intro x
  rw [List.count_range]
  have nd : ((List.range n.toNat).map fun x : Nat => (sh n s (x : Nat)).toNat).Nodup := by
    refine List.pairwise_map.mpr (List.nodup_range.imp_of_mem fun {a b} ha hb ne e => ne ?_)
    have ha := List.mem_range.mp ha
    have hb := List.mem_range.mp hb
    have r1 := sh_rg hn s (a : Int)
    have r2 := sh_rg hn s (b : Int)
    have e3 : sh n s (a : Int) = sh n s (b : Int) := by omega
    have b1 := sh_back hn s (a : Int) (by omega) (by omega)
    have b2 := sh_back hn s (b : Int) (by omega) (by omega)
    rw [e3, b2] at b1
    omega
  rw [nd.count]
  by_cases hx : x < n.toNat
  · rw [if_pos hx, if_pos]
    refine List.mem_map.mpr ⟨(sh n (n - s) (x : Int)).toNat, List.mem_range.mpr ?_, ?_⟩
    · have := sh_rg hn (n - s) (x : Int)
      omega
    · have r := sh_rg hn (n - s) (x : Int)
      rw [Int.toNat_of_nonneg r.1, sh_sh hn, show (x : Int) + (n - s) + s = x + n by omega, Int.add_emod_right, Int.emod_eq_of_lt (by omega) (by omega)]
      exact Int.toNat_natCast x
  · rw [if_neg hx, if_neg]
    intro q
    obtain ⟨y, _, e⟩ := List.mem_map.mp q
    have := sh_rg hn s (y : Int)
    omega
end EV
set_option maxHeartbeats 0
namespace EV
open PySem PySem.Spec PyProof.Rows L2 RZ
theorem sortA (A : List Int) (n s : Int) : oSortK (.lst ((A.map (sh n s)).map D.int)) = some (.lst ((moved n s A).map D.int)) := (sr_l _).trans (sortI_ok _)
theorem fits_n {n : Int} (h1 : 1 ≤ n) (h2 : n ≤ 12) : fits62 n = true := fits_ok (by omega) (by omega)
theorem shD {n : Int} (hn : 1 ≤ n) (a s : Int) : (ooK (oAddK (.int a) (.int s)) fun x => ooK (oInt x) fun x => oModK x (.int n)) = some (.int (sh n s a)) := by
  rw [add_i, ooK_some, int_i, ooK_some, mod_i (by omega)]
  rfl
noncomputable abbrev b9 : MS := (sSqK (sIfP (pT (p2 (oEqFK id) (p1 oSortK (pLc (pSeq g1) (aNm s4) (fun st => s4 none (id st)) pYes (p2 oModK (p1 oInt (p2 oAddK g4 g3)) g0))) (p1 oList g1))) (sSqK (sAppC g2 s2 g3) sSkip) sSkip) sSkip)
theorem app_ok {g : GS} {s : SS} {e : PX} {st : AS} {x : D} {xs : List D} (hg : g st = some (.lst xs)) (he : e st = some x) (hn : nHK x = true) (hl : xs.length ≤ 16000000) : sAppC g s e st = .ok (.nx (s (some (.lst (xs ++ [x]))) st)) := by
  unfold sAppC
  have l : lenK xs 0 = true := by
    rw [lenK_eq, Nat.zero_add]
    exact Nat.ble_eq_true_of_le hl
  rw [hg, opK_some, he, opK_some]
  show bK (nHK x) (bK (lenK xs 0) (apC xs [x] _) R.bad) R.bad = _
  rw [hn, bK_t, l, bK_t, apC_eq]
theorem b9_ok {n s : Int} {A : List Int} (hn : 1 ≤ n) (hA : A.length ≤ 1000) {F : List Int} {x : Option D} (hF : F.length ≤ 1000) : b9 [some (.int n), some (tZ A), some (.lst (F.map D.int)), some (.int s), x] = .ok (.nx [some (.int n), some (tZ A), some (.lst ((if stayB n A s then F ++ [s] else F).map D.int)), some (.int s), x]) := by
  have e := pLc_of (A := aNm s4) (w := fun st => s4 none (id st)) (c := pYes) (e := (p2 oModK (p1 oInt (p2 oAddK g4 g3)) g0)) (st := [some (.int n), some (tZ A), some (.lst (F.map D.int)), some (.int s), x]) (s := pSeq g1) (g := D.int) (k := D.int) (t := sh n s) A rfl (fun a ha => ⟨[some (.int n), some (tZ A), some (.lst (F.map D.int)), some (.int s), some (.int a)], rfl, rfl, by
    simp only [runK, sSqK, sIfK, sIfP, tOrK, tAndK, tNotK, tValK, liE, liT, liL, liI, liO, pNotT, pT, p1, p2, pK, pCons, pNil, pYes, pSeq, pAndE, pOrE, pNotE, pAndT, pOrT, pChain, pIf, pTup, pLst, pLc, pDic, pR1, pR2, sRetP, sRetK, sAsP, sAsK, sAoP, sAoK, sDrpK, sPar2K, sPar3K, sForP, sForK, sAppC, mAndK, mOrK, mNotK, mIfK, lConsK, mTupK, mLstK, mMK, m1K, m2K, mLcK, mCallP, mCallK, in_nil, in_cons, re_zero, re_succ, bk_ok, bk_dr, opK_some, opK_none, ooK_some, ooK_none, bK_t, bK_f, hd_cons, tl_cons, s0_cons, st_cons, fl_nx, fl_rt, fl_bk, fl_ct, rt_rt, rt_nx, dB_bl, dI_int, sq_tup, sq_lst, at_tup, al_nil, al_cons, nm_set, isi_tup_t, nh_int, nh_tup, nh_lst, nh_bl, nh_all_nil, nh_all_cons, ln_nil, ln_cons, lc_nil, lc_cons, lk_nil, lk_cons, fo_nil, fo_cons, all_l, any_l, allB_nil, anyB_nil, allB_cons, anyB_cons, ix_t0, ix_l0, ix_l1, ix_t1, ix_t2, ix_t3, pSl, pNo, pPart, pEnum, skip_nx, seq_k, fclk_eq, fck_eq, len_t, len_l, eq_i, ge_i, le_i, lt_i, gt_i, add_i, sub_i, int_i, chl, chle, id_eq, ble_ok, Nat.reduceAdd, List.length_cons, List.length_nil, decide_true, decide_false, Bool.not_true, Bool.not_false, Nat.zero_add, Nat.reduceLeDiff, Int.cast_ofNat_Int, g0, s0, g1, s1, g2, s2, g3, s3, g4, s4, g5, s5, g6, s6, g7, s7, g8, s8, g9, s9, g10, s10, g11, s11, g12, s12, g13, s13, g14, s14, g15, s15, g16, s16, g17, s17, g18, s18, g19, s19, g20, s20, g21, s21, g22, s22, g23, s23, g24, s24, g25, s25, g26, s26, g27, s27, g28, s28, g29, s29, g30, s30, g31, s31, g32, s32, g33, s33, g34, s34, g35, s35, g36, s36, g37, s37, g38, s38, g39, s39, mod_i (show n ≠ 0 by omega), sh], rfl⟩) (by omega)
  have t : (pT (p2 (oEqFK id) (p1 oSortK (pLc (pSeq g1) (aNm s4) (fun st => s4 none (id st)) pYes (p2 oModK (p1 oInt (p2 oAddK g4 g3)) g0))) (p1 oList g1))) [some (.int n), some (tZ A), some (.lst (F.map D.int)), some (.int s), x] = some (stayB n A s) := by
    unfold pT
    rw [p2_of (e := .lst (A.map D.int)) (p1_of e (sortA A n s)) rfl (eqLZ id _ _)]
    rfl
  refine (sq_nx (st' := [some (.int n), some (tZ A), some (.lst ((if stayB n A s then F ++ [s] else F).map D.int)), some (.int s), x]) ?_).trans rfl
  unfold sIfP
  rw [t, opK_some]
  cases stayB n A s with
  | false => rfl
  | true =>
    rw [bK_t]
    refine (sq_nx (app_ok (x := .int s) (xs := F.map D.int) rfl rfl rfl (by rw [List.length_map]; omega))).trans ?_
    show R.ok (Fl.nx [some (D.int n), some (tZ A), some (D.lst (F.map D.int ++ [D.int s])), some (D.int s), x]) = R.ok (Fl.nx [some (D.int n), some (tZ A), some (D.lst ((F ++ [s]).map D.int)), some (D.int s), x])
    rw [List.map_append]
    rfl
theorem l9 {n : Int} {A : List Int} (hn : 1 ≤ n) (hA : A.length ≤ 1000) : ∀ (S F : List Int) (y x : Option D), S.length + F.length ≤ 1000 → ∃ y2, forK (aNm s3) b9 (S.map D.int) [some (.int n), some (tZ A), some (.lst (F.map D.int)), y, x] = .ok (.nx [some (.int n), some (tZ A), some (.lst ((F ++ S.filter (stayB n A)).map D.int)), y2, x])
  | [], F, y, x, _ => ⟨y, by rw [List.filter_nil, List.append_nil]; rfl⟩
  | s :: S, F, y, x, h => by
    rw [List.length_cons] at h
    obtain ⟨y2, e⟩ := l9 (A := A) hn hA S (if stayB n A s then F ++ [s] else F) (some (.int s)) x (by
      split
      · rw [List.length_append]; show S.length + (F.length + 1) ≤ 1000; omega
      · omega)
    refine ⟨y2, ?_⟩
    rw [List.map_cons, fo_cons]
    show bindK (b9 [some (.int n), some (tZ A), some (.lst (F.map D.int)), some (.int s), x]) _ = _
    rw [b9_ok hn hA (by omega), bk_ok, fl_nx, e, List.filter_cons]
    cases stayB n A s with
    | true =>
      show R.ok (Fl.nx [some (D.int n), some (tZ A), some (D.lst ((F ++ [s] ++ S.filter (stayB n A)).map D.int)), y2, x]) = R.ok (Fl.nx [some (D.int n), some (tZ A), some (D.lst ((F ++ s :: S.filter (stayB n A)).map D.int)), y2, x])
      rw [List.append_assoc]
      rfl
    | false => rfl
def stays (n : Int) (A : List Int) : List Int := (ivl 0 n.toNat).filter (stayB n A)
theorem t9 {n : Int} {A : List Int} (L : Lot n A) : F9 [.int n, tZ A] = .ok (tZ (stays n A)) := by
  have hn := L.n1
  have h2 := L.n2
  obtain ⟨y, e⟩ := l9 (A := A) hn (by have := len12 L; omega) (ivl 0 n.toNat) [] none none (by rw [ivl_len]; simp only [List.length_nil]; omega)
  unfold b9 at e
  rw [List.nil_append] at e
  have e : _ = R.ok (Fl.nx [some (D.int n), some (tZ A), some (D.lst ((stays n A).map D.int)), y, none]) := e
  simp only [runK, sSqK, sIfK, sIfP, tOrK, tAndK, tNotK, tValK, liE, liT, liL, liI, liO, pNotT, pT, p1, p2, pK, pCons, pNil, pYes, pSeq, pAndE, pOrE, pNotE, pAndT, pOrT, pChain, pIf, pTup, pLst, pLc, pDic, pR1, pR2, sRetP, sRetK, sAsP, sAsK, sAoP, sAoK, sDrpK, sPar2K, sPar3K, sForP, sForK, sAppC, mAndK, mOrK, mNotK, mIfK, lConsK, mTupK, mLstK, mMK, m1K, m2K, mLcK, mCallP, mCallK, in_nil, in_cons, re_zero, re_succ, bk_ok, bk_dr, opK_some, opK_none, ooK_some, ooK_none, bK_t, bK_f, hd_cons, tl_cons, s0_cons, st_cons, fl_nx, fl_rt, fl_bk, fl_ct, rt_rt, rt_nx, dB_bl, dI_int, sq_tup, sq_lst, at_tup, al_nil, al_cons, nm_set, isi_tup_t, nh_int, nh_tup, nh_lst, nh_bl, nh_all_nil, nh_all_cons, ln_nil, ln_cons, lc_nil, lc_cons, lk_nil, lk_cons, fo_nil, fo_cons, all_l, any_l, allB_nil, anyB_nil, allB_cons, anyB_cons, ix_t0, ix_l0, ix_l1, ix_t1, ix_t2, ix_t3, pSl, pNo, pPart, pEnum, skip_nx, seq_k, fclk_eq, fck_eq, len_t, len_l, eq_i, ge_i, le_i, lt_i, gt_i, add_i, sub_i, int_i, chl, chle, id_eq, ble_ok, Nat.reduceAdd, List.length_cons, List.length_nil, decide_true, decide_false, Bool.not_true, Bool.not_false, Nat.zero_add, Nat.reduceLeDiff, Int.cast_ofNat_Int, g0, s0, g1, s1, g2, s2, g3, s3, g4, s4, g5, s5, g6, s6, g7, s7, g8, s8, g9, s9, g10, s10, g11, s11, g12, s12, g13, s13, g14, s14, g15, s15, g16, s16, g17, s17, g18, s18, g19, s19, g20, s20, g21, s21, g22, s22, g23, s23, g24, s24, g25, s25, g26, s26, g27, s27, g28, s28, g29, s29, g30, s30, g31, s31, g32, s32, g33, s33, g34, s34, g35, s35, g36, s36, g37, s37, g38, s38, g39, s39] at e
  simp only [F9, nn9, runK, sSqK, sIfK, sIfP, tOrK, tAndK, tNotK, tValK, liE, liT, liL, liI, liO, pNotT, pT, p1, p2, pK, pCons, pNil, pYes, pSeq, pAndE, pOrE, pNotE, pAndT, pOrT, pChain, pIf, pTup, pLst, pLc, pDic, pR1, pR2, sRetP, sRetK, sAsP, sAsK, sAoP, sAoK, sDrpK, sPar2K, sPar3K, sForP, sForK, sAppC, mAndK, mOrK, mNotK, mIfK, lConsK, mTupK, mLstK, mMK, m1K, m2K, mLcK, mCallP, mCallK, in_nil, in_cons, re_zero, re_succ, bk_ok, bk_dr, opK_some, opK_none, ooK_some, ooK_none, bK_t, bK_f, hd_cons, tl_cons, s0_cons, st_cons, fl_nx, fl_rt, fl_bk, fl_ct, rt_rt, rt_nx, dB_bl, dI_int, sq_tup, sq_lst, at_tup, al_nil, al_cons, nm_set, isi_tup_t, nh_int, nh_tup, nh_lst, nh_bl, nh_all_nil, nh_all_cons, ln_nil, ln_cons, lc_nil, lc_cons, lk_nil, lk_cons, fo_nil, fo_cons, all_l, any_l, allB_nil, anyB_nil, allB_cons, anyB_cons, ix_t0, ix_l0, ix_l1, ix_t1, ix_t2, ix_t3, pSl, pNo, pPart, pEnum, skip_nx, seq_k, fclk_eq, fck_eq, len_t, len_l, eq_i, ge_i, le_i, lt_i, gt_i, add_i, sub_i, int_i, chl, chle, id_eq, ble_ok, Nat.reduceAdd, List.length_cons, List.length_nil, decide_true, decide_false, Bool.not_true, Bool.not_false, Nat.zero_add, Nat.reduceLeDiff, Int.cast_ofNat_Int, g0, s0, g1, s1, g2, s2, g3, s3, g4, s4, g5, s5, g6, s6, g7, s7, g8, s8, g9, s9, g10, s10, g11, s11, g12, s12, g13, s13, g14, s14, g15, s15, g16, s16, g17, s17, g18, s18, g19, s19, g20, s20, g21, s21, g22, s22, g23, s23, g24, s24, g25, s25, g26, s26, g27, s27, g28, s28, g29, s29, g30, s30, g31, s31, g32, s32, g33, s33, g34, s34, g35, s35, g36, s36, g37, s37, g38, s38, g39, s39, t4 L, fits_n hn h2, rngK_ivl, oTuple]
  erw [e]
  rfl
theorem stays_moved {n : Int} {A : List Int} (L : Lot n A) (s : Int) : stays n (moved n s A) = stays n A := by
  unfold stays
  congr 1
  funext x
  exact stay_moved L s x
end EV
set_option maxHeartbeats 0
namespace EV
open PySem PySem.Spec PyProof.Rows L2 RZ
/-! greatest and least of what is told -/
def mxB : List Int → Bool
  | [] => false
  | x :: r => decide (maxI x r = 1)
def mnB : List Int → Bool
  | [] => false
  | x :: r => decide (minI x r = 1)
theorem maxI_mem : ∀ (l : List Int) (x : Int), maxI x l = x ∨ maxI x l ∈ l
  | [], x => .inl rfl
  | z :: r, x => by
    show maxI (if x < z then z else x) r = x ∨ maxI (if x < z then z else x) r ∈ z :: r
    rcases maxI_mem r (if x < z then z else x) with h | h
    · rw [h]
      split
      · exact .inr List.mem_cons_self
      · exact .inl rfl
    · exact .inr (List.mem_cons_of_mem _ h)
theorem mxB_iff {l : List Int} : mxB l = true ↔ (∀ x ∈ l, x ≤ 1) ∧ 1 ∈ l := by
  cases l with
  | nil => exact ⟨fun h => (nomatch h), fun h => by cases h.2⟩
  | cons x r =>
    show decide (maxI x r = 1) = true ↔ _
    rw [decide_eq_true_eq]
    have g := maxI_ge r x
    constructor
    · intro e
      rw [e] at g
      refine ⟨fun y hy => ?_, ?_⟩
      · rcases List.mem_cons.mp hy with rfl | hy
        · exact g.1
        · exact g.2 y hy
      · rcases maxI_mem r x with h | h
        · rw [e] at h; rw [← h]; exact List.mem_cons_self
        · rw [e] at h; exact List.mem_cons_of_mem _ h
    · rintro ⟨h1, h2⟩
      have le := maxI_le r x 1 (h1 x (by simp)) fun y hy => h1 y (by simp [hy])
      have ge : 1 ≤ maxI x r := by
        rcases List.mem_cons.mp h2 with h | h
        · rw [h]; exact g.1
        · exact g.2 1 h
      omega
theorem max_told (x : Int) (r : List Int) : oMaxLK (.lst ((x :: r).map D.int)) = some (.int (maxI x r)) := by
  rw [oMaxLK_eq]
  show (match ints? ((x :: r).map D.int) with | some (x :: r) => some (D.int (maxI x r)) | _ => none) = _
  rw [ints_map]
theorem min_told (x : Int) (r : List Int) : oMinLK (.lst ((x :: r).map D.int)) = some (.int (minI x r)) := by
  rw [oMinLK_eq]
  show (match ints? ((x :: r).map D.int) with | some (x :: r) => some (D.int (minI x r)) | _ => none) = _
  rw [ints_map]
theorem minI_le : ∀ (l : List Int) (x : Int), minI x l ≤ x ∧ ∀ y ∈ l, minI x l ≤ y
  | [], x => ⟨Int.le_refl _, fun _ h => nomatch h⟩
  | z :: r, x => by
    show minI (if z < x then z else x) r ≤ x ∧ ∀ y ∈ z :: r, minI (if z < x then z else x) r ≤ y
    have hm : (if z < x then z else x) ≤ x ∧ (if z < x then z else x) ≤ z := by split <;> omega
    obtain ⟨h1, h2⟩ := minI_le r (if z < x then z else x)
    generalize (if z < x then z else x) = m at *
    refine ⟨by omega, fun y hy => ?_⟩
    rcases List.mem_cons.mp hy with q | q
    · rw [q]; omega
    · exact h2 y q
theorem minI_mem : ∀ (l : List Int) (x : Int), minI x l = x ∨ minI x l ∈ l
  | [], x => .inl rfl
  | z :: r, x => by
    show minI (if z < x then z else x) r = x ∨ minI (if z < x then z else x) r ∈ z :: r
    rcases minI_mem r (if z < x then z else x) with h | h
    · rw [h]
      split
      · exact .inr List.mem_cons_self
      · exact .inl rfl
    · exact .inr (List.mem_cons_of_mem _ h)
/-- where the greatest is 1, the least is 1 just where all are 1 -/
theorem mnB_iff {l : List Int} (h : mxB l = true) : mnB l = true ↔ ∀ x ∈ l, x = 1 := by
  have hm := (mxB_iff.mp h).1
  cases l with
  | nil => cases h
  | cons x r =>
    show decide (minI x r = 1) = true ↔ _
    rw [decide_eq_true_eq]
    have g := minI_le r x
    constructor
    · intro e y hy
      rw [e] at g
      have := hm y hy
      rcases List.mem_cons.mp hy with rfl | hy
      · have := g.1; omega
      · have := g.2 y hy; omega
    · intro h
      rcases minI_mem r x with e | e
      · rw [e]; exact h x (by simp)
      · exact h _ (by simp [e])
theorem all1 {n : Int} {A B : List Int} (h : mxB (sumsL n A B) = true) : mnB (sumsL n A B) = fillsB n A B := by
  have i := mnB_iff h
  have f : fillsB n A B = true ↔ ∀ x ∈ sumsL n A B, x = 1 := by
    unfold fillsB
    rw [decide_eq_true_eq, List.eq_replicate_iff]
    exact ⟨fun q => q.2, fun q => ⟨sums_len n A B, q⟩⟩
  exact Bool.eq_iff_iff.mpr (i.trans f.symm)
/-- a beginning of what fills is not over itself -/
theorem mx_pre {n : Int} (hn : 1 ≤ n) {A B C : List Int} (hA : A ≠ []) (hB : B ≠ []) (h : fillsB n A (B ++ C) = true) : mxB (sumsL n A B) = true := by
  have p := (fills_iff hn A (B ++ C)).mp h
  have le : ∀ x, (idx n A B).count x ≤ (idx n A (B ++ C)).count x := by
    intro x
    rw [idx_count n A B, idx_count n A (B ++ C)]
    unfold idx
    rw [List.flatMap_append, List.count_append]
    omega
  have one : ∀ x, (idx n A B).count x ≤ 1 := by
    intro x
    refine Nat.le_trans (le x) ?_
    rw [List.perm_iff_count.mp p x, List.count_range]
    split <;> omega
  rw [mxB_iff]
  have get : ∀ v ∈ sumsL n A B, ∃ x, x < n.toNat ∧ v = ((idx n A B).count x : Nat) := by
    intro v hv
    obtain ⟨x, hx, e⟩ := List.getElem_of_mem hv
    rw [sums_len] at hx
    refine ⟨x, hx, ?_⟩
    rw [← sums_get hn A B x hx, List.getD_eq_getElem?_getD, List.getElem?_eq_getElem (by rw [sums_len]; exact hx)]
    exact e.symm
  constructor
  · intro v hv
    obtain ⟨x, _, rfl⟩ := get v hv
    have := one x
    omega
  · obtain ⟨a, ha⟩ := List.exists_mem_of_ne_nil A hA
    obtain ⟨b, hb⟩ := List.exists_mem_of_ne_nil B hB
    have hx := at_lt hn a b
    have c1 : 0 < (idx n A B).count (at_ n a b) := List.count_pos_iff.mpr (List.mem_flatMap.mpr ⟨a, ha, List.mem_map.mpr ⟨b, hb, rfl⟩⟩)
    have c2 := one (at_ n a b)
    have e := sums_get hn A B (at_ n a b) hx
    have hlt : at_ n a b < (sumsL n A B).length := by rw [sums_len]; exact hx
    rw [List.getD_eq_getElem?_getD, List.getElem?_eq_getElem hlt] at e
    have e : (sumsL n A B)[at_ n a b] = ((idx n A B).count (at_ n a b) : Nat) := e
    have : (sumsL n A B)[at_ n a b] = 1 := by omega
    rw [← this]
    exact List.getElem_mem hlt
end EV
set_option maxHeartbeats 0
namespace EV
open PySem PySem.Spec PyProof.Rows L2 RZ
/-! the law's own going through, as a tree -/
def lastI (h : List Int) : Int := h.getLastD 0
def kids (n : Int) (h : List Int) : List (List Int) := (ivl (lastI h + 1) (n - (lastI h + 1)).toNat).map fun x => h ++ [x]
def srch (n : Int) (A : List Int) : Nat → List Int → List (List Int)
  | 0, _ => []
  | k + 1, h => if mxB (sumsL n A h) then (if mnB (sumsL n A h) then [h] else (kids n h).reverse.flatMap (srch n A k)) else []
def dep (n : Int) (h : List Int) : Nat := (n - 1 - lastI h).toNat
theorem ivl_get : ∀ {n : Nat} {lo x : Int}, x ∈ ivl lo n → lo ≤ x ∧ x < lo + n
  | 0, lo, x, h => nomatch h
  | n + 1, lo, x, h => by
    rcases List.mem_cons.mp h with rfl | h
    · omega
    · have := ivl_get h
      omega
theorem last_mem : ∀ {h : List Int}, h ≠ [] → lastI h ∈ h
  | [], ne => absurd rfl ne
  | [x], _ => List.mem_singleton_self _
  | x :: y :: r, _ => by
    have e : lastI (x :: y :: r) = lastI (y :: r) := rfl
    rw [e]
    exact List.mem_cons_of_mem _ (last_mem (by simp))
theorem last_app (h : List Int) (x : Int) : lastI (h ++ [x]) = x := by
  unfold lastI
  rw [List.getLastD_eq_getLast?, List.getLast?_append]
  rfl
theorem last_ge {n : Int} {h : List Int} (L : Lot n h) : ∀ a ∈ h, a ≤ lastI h := by
  have : ∀ l : List Int, l.Pairwise (· < ·) → ∀ a ∈ l, a ≤ lastI l := by
    intro l
    induction l with
    | nil => intro _ a ha; cases ha
    | cons x r ih =>
      intro h a ha
      have h1 := List.pairwise_cons.mp h
      cases r with
      | nil =>
        cases List.mem_singleton.mp ha
        exact Int.le_refl _
      | cons y r =>
        have e : lastI (x :: y :: r) = lastI (y :: r) := rfl
        rw [e]
        rcases List.mem_cons.mp ha with rfl | ha
        · have := h1.1 y (by simp)
          have := ih h1.2 y (by simp)
          omega
        · exact ih h1.2 a ha
  exact this h L.up
theorem kid_lot {n : Int} {h k : List Int} (L : Lot n h) (hk : k ∈ kids n h) : Lot n k ∧ dep n k + 1 ≤ dep n h ∧ ∃ x, k = h ++ [x] := by
  obtain ⟨x, hx, rfl⟩ := List.mem_map.mp hk
  have i := ivl_get hx
  have l0 := L.rg _ (last_mem L.ne)
  refine ⟨⟨L.n1, L.n2, by simp, fun a ha => ?_, ?_⟩, ?_, x, rfl⟩
  · rcases List.mem_append.mp ha with q | q
    · exact L.rg a q
    · cases List.mem_singleton.mp q
      omega
  · rw [List.pairwise_append]
    refine ⟨L.up, List.pairwise_singleton _ _, fun a ha b hb => ?_⟩
    cases List.mem_singleton.mp hb
    have := last_ge L a ha
    omega
  · unfold dep
    rw [last_app]
    omega
theorem kid_of {n : Int} {h C : List Int} {x : Int} (L : Lot n h) (LB : Lot n (h ++ x :: C)) : h ++ [x] ∈ kids n h := by
  have p := (List.pairwise_append.mp LB.up).2.2 _ (last_mem L.ne) x (by simp)
  have r := LB.rg x (by simp)
  exact List.mem_map.mpr ⟨x, ivl_mem (by omega) (by omega), rfl⟩
theorem srch_mem {n : Int} {A : List Int} (LA : Lot n A) : ∀ (k : Nat) (h : List Int), Lot n h → dep n h < k → ∀ B, B ∈ srch n A k h ↔ (∃ C, B = h ++ C) ∧ Lot n B ∧ fillsB n A B = true
  | 0, h, L, hk, B => by omega
  | k + 1, h, L, hk, B => by
    show B ∈ (if mxB (sumsL n A h) then (if mnB (sumsL n A h) then [h] else (kids n h).reverse.flatMap (srch n A k)) else []) ↔ _
    by_cases mx : mxB (sumsL n A h) = true
    · rw [if_pos mx]
      have a1 := all1 mx
      by_cases mn : mnB (sumsL n A h) = true
      · rw [if_pos mn]
        have fh : fillsB n A h = true := by rw [← a1]; exact mn
        constructor
        · intro q
          cases List.mem_singleton.mp q
          exact ⟨⟨[], by rw [List.append_nil]⟩, L, fh⟩
        · rintro ⟨⟨C, rfl⟩, LB, fB⟩
          have e1 := fills_len LA.n1 fh
          have e2 := fills_len LA.n1 fB
          rw [List.length_append, Nat.mul_add, e1] at e2
          have : A.length * C.length = 0 := by omega
          rcases Nat.mul_eq_zero.mp this with q | q
          · exact absurd (List.length_eq_zero_iff.mp q) LA.ne
          · rw [List.length_eq_zero_iff.mp q, List.append_nil]
            exact List.mem_singleton_self _
      · rw [if_neg mn, List.mem_flatMap]
        constructor
        · rintro ⟨c, hc, q⟩
          obtain ⟨Lc, dc, x, rfl⟩ := kid_lot L (List.mem_reverse.mp hc)
          obtain ⟨⟨C, rfl⟩, LB, fB⟩ := (srch_mem LA k _ Lc (by omega) B).mp q
          exact ⟨⟨x :: C, by rw [List.append_assoc]; rfl⟩, LB, fB⟩
        · rintro ⟨⟨C, rfl⟩, LB, fB⟩
          cases C with
          | nil =>
            rw [List.append_nil] at fB
            rw [← a1] at fB
            exact absurd fB mn
          | cons x C =>
            have hc := kid_of L LB
            obtain ⟨Lc, dc, _⟩ := kid_lot L hc
            exact ⟨h ++ [x], List.mem_reverse.mpr hc, (srch_mem LA k _ Lc (by omega) _).mpr ⟨⟨C, by rw [List.append_assoc]; rfl⟩, LB, fB⟩⟩
    · rw [if_neg mx]
      constructor
      · intro q; cases q
      · rintro ⟨⟨C, rfl⟩, LB, fB⟩
        exact absurd (mx_pre LA.n1 LA.ne L.ne fB) mx
theorem srch_nodup {n : Int} {A : List Int} (LA : Lot n A) : ∀ (k : Nat) (h : List Int), Lot n h → dep n h < k → (srch n A k h).Nodup
  | 0, h, L, hk => by omega
  | k + 1, h, L, hk => by
    show (if mxB (sumsL n A h) then (if mnB (sumsL n A h) then [h] else (kids n h).reverse.flatMap (srch n A k)) else []).Nodup
    split
    · split
      · exact List.pairwise_singleton _ _
      · unfold List.Nodup
        rw [List.pairwise_flatMap]
        refine ⟨fun c hc => ?_, ?_⟩
        · obtain ⟨Lc, dc, _⟩ := kid_lot L (List.mem_reverse.mp hc)
          exact srch_nodup LA k c Lc (by omega)
        · rw [List.pairwise_reverse]
          unfold kids
          rw [List.pairwise_map]
          have nd : ∀ (m : Nat) (lo : Int), (ivl lo m).Pairwise (· < ·) := by
            intro m
            induction m with
            | zero => intro lo; exact List.Pairwise.nil
            | succ m ih => intro lo; exact List.pairwise_cons.mpr ⟨fun x hx => by have := ivl_get hx; omega, ih (lo + 1)⟩
          refine (nd _ _).imp_of_mem fun {x y} hx hy hxy B hB C hC e => ?_
          have kx : h ++ [x] ∈ kids n h := List.mem_map.mpr ⟨x, hx, rfl⟩
          have ky : h ++ [y] ∈ kids n h := List.mem_map.mpr ⟨y, hy, rfl⟩
          obtain ⟨Lx, dx, _⟩ := kid_lot L kx
          obtain ⟨Ly, dy, _⟩ := kid_lot L ky
          obtain ⟨⟨X, eX⟩, _⟩ := (srch_mem LA k _ Ly (by omega) B).mp hB
          obtain ⟨⟨Y, eY⟩, _⟩ := (srch_mem LA k _ Lx (by omega) C).mp hC
          rw [eX, eY, List.append_assoc, List.append_assoc] at e
          have := List.append_cancel_left e
          have := (List.cons.inj this).1
          omega
    · exact List.Pairwise.nil
end EV
set_option maxHeartbeats 0
namespace EV
open PySem PySem.Spec PyProof.Rows L2 RZ
noncomputable abbrev t16 : MT := (liT (pT (p2 oGtK (p1 oLenK g3) (pK (.int 0)))))
noncomputable abbrev x16 : PX := (pLc (pR2 (p2 oAddK (p2 oIxK g4 (p1 oNeg (pK (.int 1)))) (pK (.int 1))) g0) (aNm s6) (fun st => s6 none (id st)) pYes (p2 oAddK g4 (pTup (pCons g6 pNil))))
noncomputable abbrev d16 : MS := (sSqK (sIfP (pT (p2 (oEqFK id) (p1 oMaxLK g5) (pK (.int 1)))) (sSqK (sIfP (pT (p2 (oEqFK id) (p1 oMinLK g5) (pK (.int 1)))) (sSqK (sAppC g2 s2 (p1 oTuple (p1 oSortK g4))) sSkip) (sSqK (sExtKC g3 s3 (liE x16)) sSkip)) sSkip) sSkip) sSkip)
noncomputable abbrev b16 : MS := (sSqK (sAsK (aNm s4) (mPopK g3 s3)) (sSqK (sAsK (aNm s5) (mCallP F15 (pCons g0 (pCons g1 (pCons g4 pNil))))) d16))
abbrev q16 (n : Int) (A : List Int) (F S : List (List Int)) (x4 x5 x6 : Option D) : AS := [some (.int n), some (tZ A), some (.lst (F.map tupZ)), some (.lst (S.map tupZ)), x4, x5, x6]
theorem pop16 {n : Int} {A : List Int} {F S : List (List Int)} {h : List Int} {x4 x5 x6 : Option D} : mPopK g3 s3 (q16 n A F (S ++ [h]) x4 x5 x6) = .ok (tupZ h, q16 n A F S x4 x5 x6) := by
  unfold mPopK
  rw [show g3 (q16 n A F (S ++ [h]) x4 x5 x6) = some (.lst ((S ++ [h]).map tupZ)) from rfl, opK_some]
  show opK (lastK ((S ++ [h]).map tupZ)) (fun d => R.ok (d, s3 (some (.lst (dropK ((S ++ [h]).map tupZ)))) (q16 n A F (S ++ [h]) x4 x5 x6))) = _
  rw [lastK_eq, dropK_eq, List.map_append, List.map_cons, List.map_nil, List.dropLast_concat, List.length_append]
  show opK ((S.map tupZ ++ [tupZ h])[(S.map tupZ).length]?) _ = _
  rw [List.getElem?_append_right (Nat.le_refl _), Nat.sub_self]
  rfl
theorem ix_last (h : List Int) (ne : h ≠ []) : oIxK (tZ h) (.int (-1)) = some (.int (lastI h)) := by
  have e : ∀ (h : List Int), h ≠ [] → h[h.length - 1]? = some (lastI h) := by
    intro h
    induction h with
    | nil => intro ne; exact absurd rfl ne
    | cons x r ih =>
      intro _
      cases r with
      | nil => rfl
      | cons y r => exact ih (by simp)
  show ixDK (h.map D.int) (-1) = _
  rw [ixDK_eq]
  show (if 0 < (h.map D.int).length then (h.map D.int)[(h.map D.int).length - 1 - 0]? else none) = _
  have l : 0 < h.length := List.length_pos_iff.mpr ne
  rw [List.length_map, if_pos l, Nat.sub_zero, List.getElem?_map, e h ne]
  rfl
theorem addZ (h : List Int) (x : Int) (hl : h.length ≤ 1000) : oAddK (tZ h) (.tup [.int x]) = some (tZ (h ++ [x])) := by
  rw [oAddK_eq]
  show (if lenOk ((h.map D.int).length + 1) = true then some (D.tup (h.map D.int ++ [.int x])) else none) = _
  have l : lenOk ((h.map D.int).length + 1) = true := Nat.ble_eq_true_of_le (by rw [List.length_map]; omega)
  rw [if_pos l, show tZ (h ++ [x]) = .tup ((h ++ [x]).map D.int) from rfl, List.map_append]
  rfl
theorem x16_ok {n : Int} {A : List Int} {F S : List (List Int)} {h : List Int} {x5 x6 : Option D} (L : Lot n h) : x16 (q16 n A F S (some (tZ h)) x5 x6) = some (.lst ((kids n h).map tupZ)) := by
  have hl := len12 L
  have n1 := L.n1
  have n2 := L.n2
  have r := L.rg _ (last_mem L.ne)
  have src : (pR2 (p2 oAddK (p2 oIxK g4 (p1 oNeg (pK (.int 1)))) (pK (.int 1))) g0) (q16 n A F S (some (tZ h)) x5 x6) = some ((ivl (lastI h + 1) (n - (lastI h + 1)).toNat).map D.int) := by
    have ng : oNeg (.int 1) = some (.int (-1)) := rfl
    have il := ix_last h L.ne
    have f1 : fits62 (lastI h + 1) = true := fits_ok (by omega) (by omega)
    simp only [runK, sSqK, sIfK, sIfP, tOrK, tAndK, tNotK, tValK, liE, liT, liL, liI, liO, pNotT, pT, p1, p2, pK, pCons, pNil, pYes, pSeq, pAndE, pOrE, pNotE, pAndT, pOrT, pChain, pIf, pTup, pLst, pLc, pDic, pR1, pR2, sRetP, sRetK, sAsP, sAsK, sAoP, sAoK, sDrpK, sPar2K, sPar3K, sForP, sForK, sAppC, mAndK, mOrK, mNotK, mIfK, lConsK, mTupK, mLstK, mMK, m1K, m2K, mLcK, mCallP, mCallK, in_nil, in_cons, re_zero, re_succ, bk_ok, bk_dr, opK_some, opK_none, ooK_some, ooK_none, bK_t, bK_f, hd_cons, tl_cons, s0_cons, st_cons, fl_nx, fl_rt, fl_bk, fl_ct, rt_rt, rt_nx, dB_bl, dI_int, sq_tup, sq_lst, at_tup, al_nil, al_cons, nm_set, isi_tup_t, nh_int, nh_tup, nh_lst, nh_bl, nh_all_nil, nh_all_cons, ln_nil, ln_cons, lc_nil, lc_cons, lk_nil, lk_cons, fo_nil, fo_cons, all_l, any_l, allB_nil, anyB_nil, allB_cons, anyB_cons, ix_t0, ix_l0, ix_l1, ix_t1, ix_t2, ix_t3, pSl, pNo, pPart, pEnum, skip_nx, seq_k, fclk_eq, fck_eq, len_t, len_l, eq_i, ge_i, le_i, lt_i, gt_i, add_i, sub_i, int_i, chl, chle, id_eq, ble_ok, Nat.reduceAdd, List.length_cons, List.length_nil, decide_true, decide_false, Bool.not_true, Bool.not_false, Nat.zero_add, Nat.reduceLeDiff, Int.cast_ofNat_Int, g0, s0, g1, s1, g2, s2, g3, s3, g4, s4, g5, s5, g6, s6, g7, s7, g8, s8, g9, s9, g10, s10, g11, s11, g12, s12, g13, s13, g14, s14, g15, s15, g16, s16, g17, s17, g18, s18, g19, s19, g20, s20, g21, s21, g22, s22, g23, s23, g24, s24, g25, s25, g26, s26, g27, s27, g28, s28, g29, s29, g30, s30, g31, s31, g32, s32, g33, s33, g34, s34, g35, s35, g36, s36, g37, s37, g38, s38, g39, s39, ng, il, f1, fits_n n1 n2, rngK_ivl]
  refine pLc_of (g := D.int) (k := tupZ) (t := fun x => h ++ [x]) _ src (fun x hx => ⟨[some (.int n), some (tZ A), some (.lst (F.map tupZ)), some (.lst (S.map tupZ)), some (tZ h), x5, some (.int x)], rfl, rfl, ?_, rfl⟩) (by rw [ivl_len]; omega)
  have a := addZ h x (by omega)
  simp only [runK, sSqK, sIfK, sIfP, tOrK, tAndK, tNotK, tValK, liE, liT, liL, liI, liO, pNotT, pT, p1, p2, pK, pCons, pNil, pYes, pSeq, pAndE, pOrE, pNotE, pAndT, pOrT, pChain, pIf, pTup, pLst, pLc, pDic, pR1, pR2, sRetP, sRetK, sAsP, sAsK, sAoP, sAoK, sDrpK, sPar2K, sPar3K, sForP, sForK, sAppC, mAndK, mOrK, mNotK, mIfK, lConsK, mTupK, mLstK, mMK, m1K, m2K, mLcK, mCallP, mCallK, in_nil, in_cons, re_zero, re_succ, bk_ok, bk_dr, opK_some, opK_none, ooK_some, ooK_none, bK_t, bK_f, hd_cons, tl_cons, s0_cons, st_cons, fl_nx, fl_rt, fl_bk, fl_ct, rt_rt, rt_nx, dB_bl, dI_int, sq_tup, sq_lst, at_tup, al_nil, al_cons, nm_set, isi_tup_t, nh_int, nh_tup, nh_lst, nh_bl, nh_all_nil, nh_all_cons, ln_nil, ln_cons, lc_nil, lc_cons, lk_nil, lk_cons, fo_nil, fo_cons, all_l, any_l, allB_nil, anyB_nil, allB_cons, anyB_cons, ix_t0, ix_l0, ix_l1, ix_t1, ix_t2, ix_t3, pSl, pNo, pPart, pEnum, skip_nx, seq_k, fclk_eq, fck_eq, len_t, len_l, eq_i, ge_i, le_i, lt_i, gt_i, add_i, sub_i, int_i, chl, chle, id_eq, ble_ok, Nat.reduceAdd, List.length_cons, List.length_nil, decide_true, decide_false, Bool.not_true, Bool.not_false, Nat.zero_add, Nat.reduceLeDiff, Int.cast_ofNat_Int, g0, s0, g1, s1, g2, s2, g3, s3, g4, s4, g5, s5, g6, s6, g7, s7, g8, s8, g9, s9, g10, s10, g11, s11, g12, s12, g13, s13, g14, s14, g15, s15, g16, s16, g17, s17, g18, s18, g19, s19, g20, s20, g21, s21, g22, s22, g23, s23, g24, s24, g25, s25, g26, s26, g27, s27, g28, s28, g29, s29, g30, s30, g31, s31, g32, s32, g33, s33, g34, s34, g35, s35, g36, s36, g37, s37, g38, s38, g39, s39, a]
theorem ext_ok {g : GS} {s : SS} {m : ME} {st st' : AS} {l0 : D} {xs ys : List D} (hg : g st = some l0) (hm : m st = .ok (.lst ys, st')) (hg' : g st' = some (.lst xs)) (hl : xs.length + ys.length ≤ 16000000) : sExtKC g s m st = .ok (.nx (s (some (.lst (xs ++ ys))) st')) := by
  unfold sExtKC
  have l : len2K xs ys = true := by
    rw [len2K_eq]
    exact Nat.ble_eq_true_of_le hl
  rw [hg, opK_some, hm, bk_ok]
  dsimp only
  rw [hg', opK_some]
  show bK (len2K xs ys) (apC xs ys _) R.bad = _
  rw [l, bK_t, apC_eq]
theorem sorth {n : Int} {h : List Int} (L : Lot n h) : oSortK (tZ h) = some (.lst (h.map D.int)) := by
  have := sortI_ok h
  rw [up_of L.up] at this
  exact this
theorem d16_ok {n : Int} {A : List Int} {F S : List (List Int)} {h : List Int} {x6 : Option D} (L : Lot n h) (hF : F.length ≤ 10000) (hS : S.length ≤ 10000) : d16 (q16 n A F S (some (tZ h)) (some (.lst ((sumsL n A h).map D.int))) x6) = .ok (.nx (q16 n A (if mxB (sumsL n A h) then (if mnB (sumsL n A h) then F ++ [h] else F) else F) (if mxB (sumsL n A h) then (if mnB (sumsL n A h) then S else S ++ kids n h) else S) (some (tZ h)) (some (.lst ((sumsL n A h).map D.int))) x6)) := by
  have n1 := L.n1
  have n2 := L.n2
  have len := sums_len n A h
  generalize sumsL n A h = T at *
  cases T with
  | nil => rw [List.length_nil] at len; omega
  | cons v r =>
    have tx : (pT (p2 (oEqFK id) (p1 oMaxLK g5) (pK (.int 1)))) (q16 n A F S (some (tZ h)) (some (.lst ((v :: r).map D.int))) x6) = some (mxB (v :: r)) := by
      unfold pT
      rw [p2_of (p1_of rfl (max_told v r)) rfl (eq_i id _ _)]
      rfl
    have tn : (pT (p2 (oEqFK id) (p1 oMinLK g5) (pK (.int 1)))) (q16 n A F S (some (tZ h)) (some (.lst ((v :: r).map D.int))) x6) = some (mnB (v :: r)) := by
      unfold pT
      rw [p2_of (p1_of rfl (min_told v r)) rfl (eq_i id _ _)]
      rfl
    have kl : (kids n h).length ≤ 12 := by
      unfold kids
      rw [List.length_map, ivl_len]
      have := (L.rg _ (last_mem L.ne)).1
      omega
    refine (sq_nx (st' := q16 n A (if mxB (v :: r) then (if mnB (v :: r) then F ++ [h] else F) else F) (if mxB (v :: r) then (if mnB (v :: r) then S else S ++ kids n h) else S) (some (tZ h)) (some (.lst ((v :: r).map D.int))) x6) ?_).trans rfl
    unfold sIfP
    rw [tx, opK_some]
    cases mxB (v :: r) with
    | false => rfl
    | true =>
      rw [bK_t]
      refine (sq_nx (st' := q16 n A (if mnB (v :: r) then F ++ [h] else F) (if mnB (v :: r) then S else S ++ kids n h) (some (tZ h)) (some (.lst ((v :: r).map D.int))) x6) ?_).trans rfl
      rw [tn, opK_some]
      cases mnB (v :: r) with
      | false =>
        rw [bK_f]
        refine (sq_nx (ext_ok (xs := S.map tupZ) (ys := (kids n h).map tupZ) rfl (liE_ok (x16_ok L)) rfl (by rw [List.length_map, List.length_map]; omega))).trans ?_
        show R.ok (Fl.nx [some (.int n), some (tZ A), some (.lst (F.map tupZ)), some (.lst (S.map tupZ ++ (kids n h).map tupZ)), some (tZ h), some (.lst ((v :: r).map D.int)), x6]) = R.ok (Fl.nx [some (.int n), some (tZ A), some (.lst (F.map tupZ)), some (.lst ((S ++ kids n h).map tupZ)), some (tZ h), some (.lst ((v :: r).map D.int)), x6])
        rw [List.map_append]
      | true =>
        rw [bK_t]
        refine (sq_nx (app_ok (x := tZ h) (xs := F.map tupZ) rfl (p1_of (p1_of rfl (sorth L)) rfl) rfl (by rw [List.length_map]; omega))).trans ?_
        show R.ok (Fl.nx [some (.int n), some (tZ A), some (.lst (F.map tupZ ++ [tZ h])), some (.lst (S.map tupZ)), some (tZ h), some (.lst ((v :: r).map D.int)), x6]) = R.ok (Fl.nx [some (.int n), some (tZ A), some (.lst ((F ++ [h]).map tupZ)), some (.lst (S.map tupZ)), some (tZ h), some (.lst ((v :: r).map D.int)), x6])
        rw [List.map_append]
        rfl
theorem b16_ok {n : Int} {A : List Int} {F S : List (List Int)} {h : List Int} {x4 x5 x6 : Option D} (L : Lot n h) (hF : F.length ≤ 10000) (hS : S.length ≤ 10000) : b16 (q16 n A F (S ++ [h]) x4 x5 x6) = .ok (.nx (q16 n A (if mxB (sumsL n A h) then (if mnB (sumsL n A h) then F ++ [h] else F) else F) (if mxB (sumsL n A h) then (if mnB (sumsL n A h) then S else S ++ kids n h) else S) (some (tZ h)) (some (.lst ((sumsL n A h).map D.int))) x6)) := by
  unfold b16
  rw [sq_nx (asK_ok (st2 := q16 n A F S (some (tZ h)) x5 x6) pop16 rfl), sq_nx (asK_ok (st2 := q16 n A F S (some (tZ h)) (some (.lst ((sumsL n A h).map D.int))) x6) (callP_ok (xs := [.int n, tZ A, tZ h]) rfl (t15 L.n1 L.n2 A h)) rfl)]
  exact d16_ok L hF hS
end EV
set_option maxHeartbeats 0
namespace EV
open PySem PySem.Spec PyProof.Rows L2 RZ
theorem srch_fuel {n : Int} {A : List Int} : ∀ (k k2 : Nat) (h : List Int), Lot n h → dep n h < k → dep n h < k2 → srch n A k h = srch n A k2 h
  | 0, _, h, _, hk, _ => by omega
  | k + 1, 0, h, _, _, hk => by omega
  | k + 1, k2 + 1, h, L, h1, h2 => by
    show (if mxB (sumsL n A h) then (if mnB (sumsL n A h) then [h] else (kids n h).reverse.flatMap (srch n A k)) else []) = (if mxB (sumsL n A h) then (if mnB (sumsL n A h) then [h] else (kids n h).reverse.flatMap (srch n A k2)) else [])
    have e : (kids n h).reverse.flatMap (srch n A k) = (kids n h).reverse.flatMap (srch n A k2) := by
      rw [List.flatMap_def, List.flatMap_def]
      congr 1
      refine List.map_congr_left fun c hc => ?_
      obtain ⟨Lc, dc, _⟩ := kid_lot L (List.mem_reverse.mp hc)
      exact srch_fuel k k2 c Lc (by omega) (by omega)
    rw [e]
def wt (n : Int) : List (List Int) → Nat
  | [] => 0
  | h :: S => 2 ^ dep n h + wt n S
theorem wt_app (n : Int) : ∀ S T : List (List Int), wt n (S ++ T) = wt n S + wt n T
  | [], T => (Nat.zero_add _).symm
  | h :: S, T => by
    show 2 ^ dep n h + wt n (S ++ T) = 2 ^ dep n h + wt n S + wt n T
    rw [wt_app n S T, Nat.add_assoc]
theorem wt_len (n : Int) : ∀ S : List (List Int), S.length ≤ wt n S
  | [] => Nat.le_refl _
  | h :: S => by
    have := wt_len n S
    have : 1 ≤ 2 ^ dep n h := Nat.one_le_two_pow
    show S.length + 1 ≤ 2 ^ dep n h + wt n S
    omega
theorem wt_ivl {n : Int} (h : List Int) : ∀ (m : Nat) (lo : Int), n - lo = m → wt n ((ivl lo m).map fun x => h ++ [x]) + 1 = 2 ^ m
  | 0, lo, _ => rfl
  | m + 1, lo, e => by
    have ih := wt_ivl (n := n) h m (lo + 1) (by omega)
    show 2 ^ dep n (h ++ [lo]) + wt n ((ivl (lo + 1) m).map fun x => h ++ [x]) + 1 = 2 ^ (m + 1)
    have d : dep n (h ++ [lo]) = m := by
      unfold dep
      rw [last_app]
      omega
    rw [d, Nat.pow_succ]
    omega
theorem wt_kids {n : Int} {h : List Int} (L : Lot n h) : wt n (kids n h) + 1 = 2 ^ dep n h := by
  have r := L.rg _ (last_mem L.ne)
  have := wt_ivl (n := n) h (n - (lastI h + 1)).toNat (lastI h + 1) (by omega)
  have d : dep n h = (n - (lastI h + 1)).toNat := by
    unfold dep
    congr 1
    omega
  rw [d]
  exact this
def res (n : Int) (A : List Int) (S : List (List Int)) : List (List Int) := S.reverse.flatMap fun h => srch n A (dep n h + 1) h
theorem res_app (n : Int) (A : List Int) (S T : List (List Int)) : res n A (S ++ T) = res n A T ++ res n A S := by
  unfold res
  rw [List.reverse_append, List.flatMap_append]
theorem res_one {n : Int} {A h : List Int} (L : Lot n h) : res n A [h] = (if mxB (sumsL n A h) then (if mnB (sumsL n A h) then [h] else res n A (kids n h)) else []) := by
  show (srch n A (dep n h + 1) h) ++ [] = _
  rw [List.append_nil]
  show (if mxB (sumsL n A h) then (if mnB (sumsL n A h) then [h] else (kids n h).reverse.flatMap (srch n A (dep n h))) else []) = _
  have e : (kids n h).reverse.flatMap (srch n A (dep n h)) = res n A (kids n h) := by
    unfold res
    rw [List.flatMap_def, List.flatMap_def]
    congr 1
    refine List.map_congr_left fun c hc => ?_
    obtain ⟨Lc, dc, _⟩ := kid_lot L (List.mem_reverse.mp hc)
    exact srch_fuel _ _ c Lc (by omega) (by omega)
  rw [e]
theorem snoc {α : Type} (S : List α) (h : S ≠ []) : ∃ T x, S = T ++ [x] := ⟨S.dropLast, S.getLast h, (List.dropLast_concat_getLast h).symm⟩
theorem w16 {n : Int} {A : List Int} : ∀ (N : Nat) (F S : List (List Int)) (x4 x5 x6 : Option D), (∀ h ∈ S, Lot n h) → wt n S < N → F.length + wt n S ≤ 9000 → ∃ y4 y5 y6, whK t16 b16 N (q16 n A F S x4 x5 x6) = .ok (.nx (q16 n A (F ++ res n A S) [] y4 y5 y6))
  | 0, F, S, x4, x5, x6, _, h, _ => by omega
  | N + 1, F, S, x4, x5, x6, hL, h1, h2 => by
    have t : t16 (q16 n A F S x4 x5 x6) = .ok (decide ((0 : Int) < S.length), q16 n A F S x4 x5 x6) := by
      unfold t16
      simp only [runK, sSqK, sIfK, sIfP, tOrK, tAndK, tNotK, tValK, liE, liT, liL, liI, liO, pNotT, pT, p1, p2, pK, pCons, pNil, pYes, pSeq, pAndE, pOrE, pNotE, pAndT, pOrT, pChain, pIf, pTup, pLst, pLc, pDic, pR1, pR2, sRetP, sRetK, sAsP, sAsK, sAoP, sAoK, sDrpK, sPar2K, sPar3K, sForP, sForK, sAppC, mAndK, mOrK, mNotK, mIfK, lConsK, mTupK, mLstK, mMK, m1K, m2K, mLcK, mCallP, mCallK, in_nil, in_cons, re_zero, re_succ, bk_ok, bk_dr, opK_some, opK_none, ooK_some, ooK_none, bK_t, bK_f, hd_cons, tl_cons, s0_cons, st_cons, fl_nx, fl_rt, fl_bk, fl_ct, rt_rt, rt_nx, dB_bl, dI_int, sq_tup, sq_lst, at_tup, al_nil, al_cons, nm_set, isi_tup_t, nh_int, nh_tup, nh_lst, nh_bl, nh_all_nil, nh_all_cons, ln_nil, ln_cons, lc_nil, lc_cons, lk_nil, lk_cons, fo_nil, fo_cons, all_l, any_l, allB_nil, anyB_nil, allB_cons, anyB_cons, ix_t0, ix_l0, ix_l1, ix_t1, ix_t2, ix_t3, pSl, pNo, pPart, pEnum, skip_nx, seq_k, fclk_eq, fck_eq, len_t, len_l, eq_i, ge_i, le_i, lt_i, gt_i, add_i, sub_i, int_i, chl, chle, id_eq, ble_ok, Nat.reduceAdd, List.length_cons, List.length_nil, decide_true, decide_false, Bool.not_true, Bool.not_false, Nat.zero_add, Nat.reduceLeDiff, Int.cast_ofNat_Int, g0, s0, g1, s1, g2, s2, g3, s3, g4, s4, g5, s5, g6, s6, g7, s7, g8, s8, g9, s9, g10, s10, g11, s11, g12, s12, g13, s13, g14, s14, g15, s15, g16, s16, g17, s17, g18, s18, g19, s19, g20, s20, g21, s21, g22, s22, g23, s23, g24, s24, g25, s25, g26, s26, g27, s27, g28, s28, g29, s29, g30, s30, g31, s31, g32, s32, g33, s33, g34, s34, g35, s35, g36, s36, g37, s37, g38, s38, g39, s39, List.length_map]
    rw [wh_succ, t, bk_ok]
    by_cases e : S = []
    · subst e
      exact ⟨x4, x5, x6, by rw [show res n A [] = [] from rfl, List.append_nil]; rfl⟩
    · obtain ⟨T, h, rfl⟩ := snoc S e
      have L := hL h (by simp)
      have wl := wt_len n (T ++ [h])
      have wa := wt_app n T [h]
      have w1 : wt n [h] = 2 ^ dep n h := rfl
      have wk := wt_kids L
      rw [List.length_append] at wl
      have wl : T.length + 1 ≤ wt n (T ++ [h]) := wl
      rw [show decide ((0 : Int) < ((T ++ [h]).length : Nat)) = true from decide_eq_true (by rw [List.length_append]; show (0 : Int) < ((T.length + 1 : Nat) : Int); omega), bK_t]
      dsimp only
      rw [b16_ok L (by omega) (by omega), bk_ok, fl_nx, res_app, res_one L]
      by_cases mx : mxB (sumsL n A h) = true
      · rw [if_pos mx, if_pos mx, if_pos mx]
        by_cases mn : mnB (sumsL n A h) = true
        · rw [if_pos mn, if_pos mn, if_pos mn]
          obtain ⟨y4, y5, y6, ih⟩ := w16 N (F ++ [h]) T (some (tZ h)) (some (.lst ((sumsL n A h).map D.int))) x6 (fun c hc => hL c (by simp [hc])) (by omega) (by rw [List.length_append]; show F.length + 1 + _ ≤ 9000; omega)
          exact ⟨y4, y5, y6, by rw [ih, List.append_assoc]⟩
        · rw [if_neg mn, if_neg mn, if_neg mn]
          have wb := wt_app n T (kids n h)
          obtain ⟨y4, y5, y6, ih⟩ := w16 N F (T ++ kids n h) (some (tZ h)) (some (.lst ((sumsL n A h).map D.int))) x6 (fun c hc => by
            rcases List.mem_append.mp hc with q | q
            · exact hL c (by simp [q])
            · exact (kid_lot L q).1) (by omega) (by omega)
          exact ⟨y4, y5, y6, by rw [ih, res_app]⟩
      · rw [if_neg mx, if_neg mx, if_neg mx]
        obtain ⟨y4, y5, y6, ih⟩ := w16 N F T (some (tZ h)) (some (.lst ((sumsL n A h).map D.int))) x6 (fun c hc => hL c (by simp [hc])) (by omega) (by omega)
        exact ⟨y4, y5, y6, by rw [ih]; rfl⟩
end EV
set_option maxHeartbeats 0
namespace EV
open PySem PySem.Spec PyProof.Rows L2 RZ
/-- lists of whole numbers, as columns -/
theorem heads_int : ∀ yss : List (List Int), ∃ l : List Int, heads (yss.map fun y => y.map D.int) = l.map D.int
  | [] => ⟨[], rfl⟩
  | [] :: r => heads_int r
  | (x :: _) :: r => by
    obtain ⟨l, e⟩ := heads_int r
    exact ⟨x :: l, by show D.int x :: heads (r.map fun y => y.map D.int) = _; rw [e]; rfl⟩
theorem tails_int : ∀ (yss : List (List Int)) (m : Nat), (∀ y ∈ yss, y.length ≤ m + 1) → ∃ zss : List (List Int), tails (yss.map fun y => y.map D.int) = zss.map (fun y => y.map D.int) ∧ ∀ z ∈ zss, z.length ≤ m
  | [], m, _ => ⟨[], rfl, fun _ h => nomatch h⟩
  | [] :: r, m, h => tails_int r m fun y hy => h y (by simp [hy])
  | (x :: xs) :: r, m, h => by
    obtain ⟨zss, e, hz⟩ := tails_int r m fun y hy => h y (by simp [hy])
    refine ⟨xs :: zss, by show (xs.map D.int) :: tails (r.map fun y => y.map D.int) = _; rw [e]; rfl, fun z hz2 => ?_⟩
    rcases List.mem_cons.mp hz2 with rfl | q
    · have := h (x :: z) (by simp)
      rw [List.length_cons] at this
      omega
    · exact hz z q
theorem tails_zero : ∀ yss : List (List Int), (∀ y ∈ yss, y.length ≤ 0) → tails (yss.map fun y => y.map D.int) = []
  | [], _ => rfl
  | [] :: r, h => tails_zero r fun y hy => h y (by simp [hy])
  | (x :: xs) :: r, h => by
    have := h (x :: xs) (by simp)
    rw [List.length_cons] at this
    omega
theorem cols_int : ∀ (m k : Nat) (yss : List (List Int)), m + 2 ≤ k → (∀ y ∈ yss, y.length ≤ m) → colsOk (homog 59) k (yss.map fun y => y.map D.int) = true
  | m, 0, yss, h, _ => by omega
  | m, k + 1, [], _, _ => rfl
  | m, k + 1, y :: r, h, hy => by
    obtain ⟨l, e⟩ := heads_int (y :: r)
    show (match homog 59 (heads ((y :: r).map fun y => y.map D.int)) with | true => colsOk (homog 59) k (tails ((y :: r).map fun y => y.map D.int)) | false => false) = true
    rw [e, homI 58 (fun i => i) l]
    show colsOk (homog 59) k (tails ((y :: r).map fun y => y.map D.int)) = true
    cases m with
    | zero =>
      rw [tails_zero _ hy]
      obtain ⟨k, rfl⟩ : ∃ j, k = j + 1 := ⟨k - 1, by omega⟩
      rfl
    | succ m =>
      obtain ⟨zss, e2, hz⟩ := tails_int (y :: r) m hy
      rw [e2]
      exact cols_int m k zss (by omega) hz
theorem homZ (l : List (List Int)) (h : ∀ y ∈ l, y.length ≤ 1000) : homog 60 (l.map tupZ) = true := by
  cases l with
  | nil => rfl
  | cons y r =>
    show (match tups? ((y :: r).map fun a => D.tup (a.map D.int)) with | some yss => colsOk (homog 59) 100000 yss | none => false) = true
    rw [tups_map (fun a : List Int => a.map D.int)]
    exact cols_int 1000 100000 (y :: r) (by omega) h
theorem sortZ (l : List (List Int)) (h : ∀ y ∈ l, y.length ≤ 1000) (h2 : ∀ y ∈ l, y ≠ []) : sortOpK (l.map tupZ) = some (.lst ((sortR gtL l).map tupZ)) := by
  rw [sort_of (homZ l h) (fun x hx => by
    obtain ⟨y, hy, rfl⟩ := List.mem_map.mp hx
    have ne := h2 y hy
    cases y with
    | nil => exact absurd rfl ne
    | cons a r => intro q; cases q), ← sortL_map]
/-- the lots with 0 with which A fills -/
def due (n : Int) (A : List Int) : List (List Int) := sortR gtL (res n A [[0]])
theorem lot0 {n : Int} (h1 : 1 ≤ n) (h2 : n ≤ 12) : Lot n [0] := ⟨h1, h2, by simp, fun a ha => by cases List.mem_singleton.mp ha; omega, List.pairwise_singleton _ _⟩
theorem res_mem {n : Int} {A : List Int} (L : Lot n A) (B : List Int) : B ∈ res n A [[0]] ↔ (∃ C, B = [0] ++ C) ∧ Lot n B ∧ fillsB n A B = true := by
  show B ∈ srch n A (dep n [0] + 1) [0] ++ [] ↔ _
  rw [List.append_nil]
  exact srch_mem L _ _ (lot0 L.n1 L.n2) (by omega) B
theorem res_nodup {n : Int} {A : List Int} (L : Lot n A) : (res n A [[0]]).Nodup := by
  show (srch n A (dep n [0] + 1) [0] ++ []).Nodup
  rw [List.append_nil]
  exact srch_nodup L _ _ (lot0 L.n1 L.n2) (by omega)
theorem due_mem {n : Int} {A : List Int} (L : Lot n A) (B : List Int) : B ∈ due n A ↔ (∃ C, B = [0] ++ C) ∧ Lot n B ∧ fillsB n A B = true := by
  unfold due
  rw [mem_sortR, res_mem L]
theorem nn16_eq : nn16 = sSqK (sPar2K s2 s3 (liE (pLst pNil)) (liE (pLst (pCons (pTup (pCons (pK (.int 0)) pNil)) pNil)))) (sSqK (whK t16 b16 5000) (sSqK (sRetP (p1 oSortK g2)) sSkip)) := rfl
theorem tt16 {n : Int} {A : List Int} (L : Lot n A) : F16 [.int n, tZ A] = .ok (.lst ((due n A).map tupZ)) := by
  have d0 : wt n [[0]] ≤ 2048 := by
    show 2 ^ dep n [0] + 0 ≤ 2048
    have : dep n [0] ≤ 11 := by
      unfold dep lastI
      have := L.n2
      show (n - 1 - 0).toNat ≤ 11
      omega
    have := Nat.pow_le_pow_right (show 0 < 2 by decide) this
    omega
  obtain ⟨y4, y5, y6, e⟩ := w16 (n := n) (A := A) 5000 [] [[0]] none none none (fun h hh => by cases List.mem_singleton.mp hh; exact lot0 L.n1 L.n2) (by omega) (by simp only [List.length_nil]; omega)
  rw [List.nil_append] at e
  have i0 : sPar2K s2 s3 (liE (pLst pNil)) (liE (pLst (pCons (pTup (pCons (pK (.int 0)) pNil)) pNil))) (initK [.int n, tZ A] 7) = .ok (.nx (q16 n A [] [[0]] none none none)) := by
    simp only [runK, sSqK, sIfK, sIfP, tOrK, tAndK, tNotK, tValK, liE, liT, liL, liI, liO, pNotT, pT, p1, p2, pK, pCons, pNil, pYes, pSeq, pAndE, pOrE, pNotE, pAndT, pOrT, pChain, pIf, pTup, pLst, pLc, pDic, pR1, pR2, sRetP, sRetK, sAsP, sAsK, sAoP, sAoK, sDrpK, sPar2K, sPar3K, sForP, sForK, sAppC, mAndK, mOrK, mNotK, mIfK, lConsK, mTupK, mLstK, mMK, m1K, m2K, mLcK, mCallP, mCallK, in_nil, in_cons, re_zero, re_succ, bk_ok, bk_dr, opK_some, opK_none, ooK_some, ooK_none, bK_t, bK_f, hd_cons, tl_cons, s0_cons, st_cons, fl_nx, fl_rt, fl_bk, fl_ct, rt_rt, rt_nx, dB_bl, dI_int, sq_tup, sq_lst, at_tup, al_nil, al_cons, nm_set, isi_tup_t, nh_int, nh_tup, nh_lst, nh_bl, nh_all_nil, nh_all_cons, ln_nil, ln_cons, lc_nil, lc_cons, lk_nil, lk_cons, fo_nil, fo_cons, all_l, any_l, allB_nil, anyB_nil, allB_cons, anyB_cons, ix_t0, ix_l0, ix_l1, ix_t1, ix_t2, ix_t3, pSl, pNo, pPart, pEnum, skip_nx, seq_k, fclk_eq, fck_eq, len_t, len_l, eq_i, ge_i, le_i, lt_i, gt_i, add_i, sub_i, int_i, chl, chle, id_eq, ble_ok, Nat.reduceAdd, List.length_cons, List.length_nil, decide_true, decide_false, Bool.not_true, Bool.not_false, Nat.zero_add, Nat.reduceLeDiff, Int.cast_ofNat_Int, g0, s0, g1, s1, g2, s2, g3, s3, g4, s4, g5, s5, g6, s6, g7, s7, g8, s8, g9, s9, g10, s10, g11, s11, g12, s12, g13, s13, g14, s14, g15, s15, g16, s16, g17, s17, g18, s18, g19, s19, g20, s20, g21, s21, g22, s22, g23, s23, g24, s24, g25, s25, g26, s26, g27, s27, g28, s28, g29, s29, g30, s30, g31, s31, g32, s32, g33, s33, g34, s34, g35, s35, g36, s36, g37, s37, g38, s38, g39, s39, List.map_cons, List.map_nil]
    rfl
  have so := sortZ (res n A [[0]]) (fun y hy => by have := len12 ((res_mem L y).mp hy).2.1; omega) (fun y hy => ((res_mem L y).mp hy).2.1.ne)
  have fin : sSqK (sRetP (p1 oSortK g2)) sSkip (q16 n A (res n A [[0]]) [] y4 y5 y6) = .ok (.rt (.lst ((due n A).map tupZ))) := by
    unfold sSqK sRetP
    rw [p1_of (d := .lst ((res n A [[0]]).map tupZ)) rfl so, opK_some, bk_ok]
    rfl
  have e3 : nn16 (initK [.int n, tZ A] 7) = .ok (.rt (.lst ((due n A).map tupZ))) := by
    rw [nn16_eq, sq_nx i0, sq_nx e, fin]
  unfold F16 runK
  rw [e3, bk_ok]
  rfl
end EV
set_option maxHeartbeats 0
namespace EV
open PySem PySem.Spec PyProof.Rows L2 RZ
theorem at_inj {n : Int} (hn : 1 ≤ n) {a b c : Int} (hb : 0 ≤ b ∧ b < n) (hc : 0 ≤ c ∧ c < n) (h : at_ n a b = at_ n a c) : b = c := by
  have b0 := Int.fmod_nonneg_of_pos (a + b) (show 0 < n by omega)
  have c0 := Int.fmod_nonneg_of_pos (a + c) (show 0 < n by omega)
  have e : sh n a b = sh n a c := by
    unfold sh
    unfold at_ at h
    rw [Int.add_comm b a, Int.add_comm c a]
    omega
  rw [← sh_back hn a b hb.1 hb.2, ← sh_back hn a c hc.1 hc.2, e]
/-- where A and B fill, an hour is had in one way -/
theorem fill_uniq {n : Int} {A B : List Int} (hn : 1 ≤ n) (hB : ∀ b ∈ B, 0 ≤ b ∧ b < n) (h : fillsB n A B = true) {a a2 b b2 : Int} (ha : a ∈ A) (ha2 : a2 ∈ A) (hb : b ∈ B) (hb2 : b2 ∈ B) (e : at_ n a b = at_ n a2 b2) : a = a2 ∧ b = b2 := by
  have nd : (idx n A B).Nodup := ((fills_iff hn A B).mp h).symm.nodup List.nodup_range
  unfold idx List.Nodup at nd
  rw [List.pairwise_flatMap] at nd
  by_cases q : a = a2
  · subst q
    exact ⟨rfl, at_inj hn (hB b hb) (hB b2 hb2) e⟩
  · exfalso
    have key : ∀ l : List Int, l.Pairwise (fun a₁ a₂ => ∀ x ∈ B.map (at_ n a₁), ∀ y ∈ B.map (at_ n a₂), x ≠ y) → a ∈ l → a2 ∈ l → False := by
      intro l
      induction l with
      | nil => intro _ h; cases h
      | cons z r ih =>
        intro hp h1 h2
        have h3 := List.pairwise_cons.mp hp
        rcases List.mem_cons.mp h1 with r1 | r1 <;> rcases List.mem_cons.mp h2 with r2 | r2
        · exact q (r1.trans r2.symm)
        · subst r1
          exact h3.1 a2 r2 _ (List.mem_map_of_mem hb) _ (List.mem_map_of_mem hb2) e
        · subst r2
          exact h3.1 a r1 _ (List.mem_map_of_mem hb2) _ (List.mem_map_of_mem hb) e.symm
        · exact ih h3.2 r1 r2
    exact key A nd.2 ha ha2
/-- .. and is had -/
theorem fill_had {n : Int} {A B : List Int} (hn : 1 ≤ n) (h : fillsB n A B = true) {x : Nat} (hx : x < n.toNat) : ∃ a ∈ A, ∃ b ∈ B, at_ n a b = x := by
  have m := ((fills_iff hn A B).mp h).mem_iff.mpr (List.mem_range.mpr hx)
  obtain ⟨a, ha, q⟩ := List.mem_flatMap.mp m
  obtain ⟨b, hb, e⟩ := List.mem_map.mp q
  exact ⟨a, ha, b, hb, e⟩
end EV
set_option maxHeartbeats 0
namespace EV
open PySem PySem.Spec PyProof.Rows L2 RZ
/-- the move with which a comes to lie at hour f -/
def shf (n f a : Int) : Int := (f - a).fmod n
theorem shf_rg {n : Int} (hn : 1 ≤ n) (f a : Int) : 0 ≤ shf n f a ∧ shf n f a < n := ⟨Int.fmod_nonneg_of_pos _ (by omega), Int.fmod_lt_of_pos _ (by omega)⟩
theorem at_shf {n : Int} (hn : 1 ≤ n) {f a : Int} (h0 : 0 ≤ f) (h1 : f < n) : at_ n a (shf n f a) = f.toNat := by
  unfold at_ shf
  rw [fm hn, fm hn, Int.add_emod_emod, show a + (f - a) = f by omega, Int.emod_eq_of_lt h0 h1]
theorem shf_of {n : Int} (hn : 1 ≤ n) {f a b : Int} (h0 : 0 ≤ f) (h1 : f < n) (hb : 0 ≤ b ∧ b < n) (e : at_ n a b = f.toNat) : b = shf n f a := at_inj hn hb (shf_rg hn f a) (e.trans (at_shf hn h0 h1).symm)
/-- the hours of a lot moved -/
def hrs (n : Int) (A : List Int) (s : Int) : List Int := A.map fun o => (s + o).fmod n
theorem hrs_at {n : Int} (hn : 1 ≤ n) (A : List Int) (s : Int) : hrs n A s = (A.map fun a => at_ n a s).map fun x : Nat => (x : Int) := by
  unfold hrs
  rw [map_map2]
  congr 1
  funext o
  unfold at_
  rw [Int.toNat_of_nonneg (Int.fmod_nonneg_of_pos _ (by omega)), Int.add_comm]
def free (n : Int) (tk : List Int) : List Int := (ivl 0 n.toNat).filter fun h => !(tk.contains h)
def nxt (n : Int) (A : List Int) (f : Int) (d tk : List Int) : List (List Int × List Int) := A.filterMap fun a => if (hrs n A (shf n f a)).any fun h => tk.contains h then none else some (d ++ [shf n f a], sortR gtI (tk ++ hrs n A (shf n f a)))
def srch2 (n : Int) (A : List Int) : Nat → List Int × List Int → List (List Int)
  | 0, _ => []
  | k + 1, x => match free n x.2 with
    | [] => [sortR gtI x.1]
    | f :: _ => (nxt n A f x.1 x.2).reverse.flatMap (srch2 n A k)
/-- what is waiting: moves told, and just their hours taken -/
structure Nd (n : Int) (A : List Int) (x : List Int × List Int) : Prop where
  rg : ∀ s ∈ x.1, 0 ≤ s ∧ s < n
  ne : x.1 ≠ []
  tk : x.2.Perm ((idx n A x.1).map fun h : Nat => (h : Int))
  nd : (idx n A x.1).Nodup
end EV
set_option maxHeartbeats 0
namespace EV
open PySem PySem.Spec PyProof.Rows L2 RZ
theorem idx_snoc (n : Int) (A d : List Int) (s : Int) : (idx n A (d ++ [s])).Perm (idx n A d ++ A.map fun a => at_ n a s) := by
  refine List.perm_iff_count.mpr fun x => ?_
  have e : idx n (d ++ [s]) A = idx n d A ++ A.map (at_ n s) := by
    unfold idx
    rw [List.flatMap_append]
    show _ ++ (A.map (at_ n s) ++ []) = _
    rw [List.append_nil]
  have e2 : (A.map fun a => at_ n a s) = A.map (at_ n s) := List.map_congr_left fun a _ => at_comm n a s
  rw [idx_count, e, List.count_append, List.count_append, idx_count n d A, e2]
theorem Nd.child {n : Int} {A d tk : List Int} (L : Lot n A) (X : Nd n A (d, tk)) {s : Int} (hs : 0 ≤ s ∧ s < n) (h : ∀ x ∈ hrs n A s, x ∉ tk) : Nd n A (d ++ [s], sortR gtI (tk ++ hrs n A s)) where
  rg t ht := by
    rcases List.mem_append.mp ht with q | q
    · exact X.rg t q
    · cases List.mem_singleton.mp q
      exact hs
  ne := by simp
  tk := by
    refine (sortR_perm _).trans ?_
    refine .trans ?_ ((idx_snoc n A d s).map fun h : Nat => (h : Int)).symm
    rw [List.map_append, hrs_at L.n1]
    exact X.tk.append_right _
  nd := by
    refine (idx_snoc n A d s).symm.nodup ?_
    rw [List.nodup_append]
    refine ⟨X.nd, ?_, fun x hx y hy e => ?_⟩
    · refine List.pairwise_map.mpr (L.nodup.imp_of_mem fun {a b} ha hb ne e => ne ?_)
      rw [at_comm n a s, at_comm n b s] at e
      exact at_inj L.n1 (L.rg a ha) (L.rg b hb) e
    · subst e
      have m : (x : Int) ∈ hrs n A s := by
        rw [hrs_at L.n1]
        exact List.mem_map.mpr ⟨x, hy, rfl⟩
      exact h _ m (X.tk.mem_iff.mpr (List.mem_map.mpr ⟨x, hx, rfl⟩))
end EV
set_option maxHeartbeats 0
namespace EV
open PySem PySem.Spec PyProof.Rows L2 RZ
theorem free_mem {n : Int} (hn : 1 ≤ n) {tk : List Int} {f : Int} : f ∈ free n tk ↔ (0 ≤ f ∧ f < n) ∧ f ∉ tk := by
  unfold free
  rw [List.mem_filter]
  constructor
  · rintro ⟨h, h2⟩
    have := ivl_get h
    refine ⟨by omega, fun q => ?_⟩
    rw [List.contains_iff_mem.mpr q] at h2
    cases h2
  · rintro ⟨h, h2⟩
    refine ⟨ivl_mem (by omega) (by omega), ?_⟩
    cases e : tk.contains f with
    | false => rfl
    | true => exact absurd (List.contains_iff_mem.mp e) h2
theorem Nd.leaf {n : Int} {A d tk : List Int} (hn : 1 ≤ n) (X : Nd n A (d, tk)) (h : free n tk = []) : fillsB n A d = true := by
  rw [fills_iff hn]
  refine (List.perm_ext_iff_of_nodup X.nd List.nodup_range).mpr fun x => ?_
  rw [List.mem_range]
  constructor
  · exact idx_lt hn x
  · intro hx
    have : (x : Int) ∈ tk := by
      refine Classical.byContradiction fun q => ?_
      have := (free_mem hn).mpr ⟨⟨by omega, by omega⟩, q⟩
      rw [h] at this
      cases this
    obtain ⟨y, hy, e⟩ := List.mem_map.mp (X.tk.mem_iff.mp this)
    have : y = x := by omega
    rw [← this]
    exact hy
end EV
set_option maxHeartbeats 0
namespace EV
open PySem PySem.Spec PyProof.Rows L2 RZ
theorem ivl_nodup : ∀ (m : Nat) (lo : Int), (ivl lo m).Nodup
  | 0, _ => List.nodup_nil
  | m + 1, lo => List.nodup_cons.mpr ⟨fun h => by have := ivl_get h; omega, ivl_nodup m (lo + 1)⟩
theorem free_less {n : Int} (hn : 1 ≤ n) {tk tk2 : List Int} {f : Int} (hf : f ∈ free n tk) (hf2 : f ∈ tk2) (hs : ∀ x ∈ tk, x ∈ tk2) : (free n tk2).length < (free n tk).length := by
  have nd : (f :: free n tk2).Nodup := List.nodup_cons.mpr ⟨fun q => ((free_mem hn).mp q).2 hf2, (ivl_nodup _ _).sublist List.filter_sublist⟩
  have le := nodup_le nd (m := free n tk) fun x hx => by
    rcases List.mem_cons.mp hx with rfl | q
    · exact hf
    · obtain ⟨h1, h2⟩ := (free_mem hn).mp q
      exact (free_mem hn).mpr ⟨h1, fun q => h2 (hs x q)⟩
  exact le
/-- a child of a node, for a part a of the lot -/
theorem nxt_mem {n : Int} {A : List Int} {f : Int} {d tk : List Int} {y : List Int × List Int} : y ∈ nxt n A f d tk ↔ ∃ a ∈ A, (∀ x ∈ hrs n A (shf n f a), x ∉ tk) ∧ y = (d ++ [shf n f a], sortR gtI (tk ++ hrs n A (shf n f a))) := by
  unfold nxt
  rw [List.mem_filterMap]
  constructor
  · rintro ⟨a, ha, e⟩
    refine ⟨a, ha, ?_⟩
    split at e
    · cases e
    · rename_i q
      cases e
      refine ⟨fun x hx h => q (List.any_eq_true.mpr ⟨x, hx, List.contains_iff_mem.mpr h⟩), rfl⟩
  · rintro ⟨a, ha, h, rfl⟩
    refine ⟨a, ha, if_neg fun q => ?_⟩
    obtain ⟨x, hx, e⟩ := List.any_eq_true.mp q
    exact h x hx (List.contains_iff_mem.mp e)
theorem nxt_nd {n : Int} {A : List Int} (L : Lot n A) {f : Int} {d tk : List Int} (X : Nd n A (d, tk)) (hf : f ∈ free n tk) {y : List Int × List Int} (hy : y ∈ nxt n A f d tk) : Nd n A y ∧ (free n y.2).length < (free n tk).length := by
  obtain ⟨a, ha, h, rfl⟩ := nxt_mem.mp hy
  obtain ⟨⟨f0, f1⟩, _⟩ := (free_mem L.n1).mp hf
  refine ⟨X.child L (shf_rg L.n1 f a) h, free_less L.n1 hf (mem_sortR.mpr (List.mem_append_right _ ?_)) fun x hx => mem_sortR.mpr (List.mem_append_left _ hx)⟩
  rw [hrs_at L.n1]
  refine List.mem_map.mpr ⟨f.toNat, List.mem_map.mpr ⟨a, ha, at_shf L.n1 f0 f1⟩, ?_⟩
  omega
end EV
set_option maxHeartbeats 0
namespace EV
open PySem PySem.Spec PyProof.Rows L2 RZ
theorem Nd.nodup {n : Int} {A d tk : List Int} (L : Lot n A) (X : Nd n A (d, tk)) : d.Nodup := by
  obtain ⟨a, ha⟩ := List.exists_mem_of_ne_nil A L.ne
  have nd := X.nd
  unfold idx List.Nodup at nd
  rw [List.pairwise_flatMap] at nd
  have := List.pairwise_map.mp (nd.1 a ha)
  exact this.imp fun h e => h (by rw [e])
theorem perm_sub {d B : List Int} (hd : d.Nodup) (hs : ∀ s ∈ d, s ∈ B) (hl : d.length = B.length) (hB : B.Nodup) : d.Perm B := by
  refine (List.perm_ext_iff_of_nodup hd hB).mpr fun x => ⟨hs x, fun hx => ?_⟩
  refine Classical.byContradiction fun q => ?_
  have := nodup_le (List.nodup_cons.mpr ⟨q, hd⟩) (m := B) fun y hy => by
    rcases List.mem_cons.mp hy with rfl | h
    · exact hx
    · exact hs y h
  rw [List.length_cons] at this
  omega
theorem srch2_mem {n : Int} {A : List Int} (L : Lot n A) : ∀ (k : Nat) (d tk : List Int), Nd n A (d, tk) → (free n tk).length < k → ∀ B, B ∈ srch2 n A k (d, tk) ↔ Lot n B ∧ fillsB n A B = true ∧ ∀ s ∈ d, s ∈ B
  | 0, d, tk, X, hk, B => by omega
  | k + 1, d, tk, X, hk, B => by
    have hn := L.n1
    show B ∈ (match free n tk with | [] => [sortR gtI d] | f :: _ => (nxt n A f d tk).reverse.flatMap (srch2 n A k)) ↔ _
    cases e : free n tk with
    | nil =>
      have fd := X.leaf hn e
      have dn := X.nodup L
      have len := fills_len hn fd
      constructor
      · intro q
        cases List.mem_singleton.mp q
        have p := sortR_perm (gt := gtI) d
        refine ⟨⟨hn, L.n2, fun e2 => ?_, fun a ha => X.rg a (mem_sortR.mp ha), sorted_lt dn⟩, ?_, fun s hs => mem_sortR.mpr hs⟩
        · have := sortR_len (gt := gtI) (l := d)
          rw [e2] at this
          exact X.ne (List.length_eq_zero_iff.mp this.symm)
        · rw [fills_comm hn, fills_iff hn]
          rw [fills_comm hn, fills_iff hn] at fd
          exact (p.flatMap_right _).trans fd
      · rintro ⟨LB, fB, hs⟩
        have len2 := fills_len hn fB
        have : d.length = B.length := Nat.eq_of_mul_eq_mul_left (List.length_pos_iff.mpr L.ne) (len.trans len2.symm)
        have p := perm_sub dn hs this LB.nodup
        rw [sortR_perm_eq ordI p, up_of LB.up]
        exact List.mem_singleton_self _
    | cons f r =>
      have hf : f ∈ free n tk := by rw [e]; exact List.mem_cons_self
      obtain ⟨⟨f0, f1⟩, f2⟩ := (free_mem hn).mp hf
      show B ∈ (nxt n A f d tk).reverse.flatMap (srch2 n A k) ↔ _
      rw [List.mem_flatMap]
      constructor
      · rintro ⟨⟨d2, tk2⟩, hy, hB⟩
        obtain ⟨X2, le⟩ := nxt_nd L X hf (List.mem_reverse.mp hy)
        obtain ⟨a, ha, h, ey⟩ := nxt_mem.mp (List.mem_reverse.mp hy)
        cases ey
        obtain ⟨LB, fB, hs⟩ := (srch2_mem L k _ _ X2 (by dsimp only at le; omega) B).mp hB
        exact ⟨LB, fB, fun s q => hs s (List.mem_append_left _ q)⟩
      · rintro ⟨LB, fB, hs⟩
        obtain ⟨a, ha, b, hb, eab⟩ := fill_had hn fB (x := f.toNat) (by omega)
        have eb := shf_of hn f0 f1 (LB.rg b hb) eab
        have off : ∀ x ∈ hrs n A (shf n f a), x ∉ tk := by
          intro x hx q
          rw [hrs_at hn] at hx
          obtain ⟨y, hy, rfl⟩ := List.mem_map.mp hx
          obtain ⟨o, ho, rfl⟩ := List.mem_map.mp hy
          obtain ⟨z, hz, ez⟩ := List.mem_map.mp (X.tk.mem_iff.mp q)
          obtain ⟨a2, ha2, hz2⟩ := List.mem_flatMap.mp hz
          obtain ⟨s2, hs2, rfl⟩ := List.mem_map.mp hz2
          have u := fill_uniq hn LB.rg fB ha2 ho (hs s2 hs2) (eb ▸ hb) (by omega)
          refine f2 (X.tk.mem_iff.mpr (List.mem_map.mpr ⟨f.toNat, List.mem_flatMap.mpr ⟨a, ha, List.mem_map.mpr ⟨s2, hs2, ?_⟩⟩, by omega⟩))
          rw [u.2]
          exact at_shf hn f0 f1
        have hy : (d ++ [shf n f a], sortR gtI (tk ++ hrs n A (shf n f a))) ∈ nxt n A f d tk := nxt_mem.mpr ⟨a, ha, off, rfl⟩
        obtain ⟨X2, le⟩ := nxt_nd L X hf hy
        refine ⟨_, List.mem_reverse.mpr hy, (srch2_mem L k _ _ X2 (by dsimp only at le; omega) B).mpr ⟨LB, fB, fun s q => ?_⟩⟩
        rcases List.mem_append.mp q with q | q
        · exact hs s q
        · cases List.mem_singleton.mp q
          rw [← eb]
          exact hb
end EV
set_option maxHeartbeats 0
namespace EV
open PySem PySem.Spec PyProof.Rows L2 RZ
theorem srch2_nodup {n : Int} {A : List Int} (L : Lot n A) : ∀ (k : Nat) (d tk : List Int), Nd n A (d, tk) → (free n tk).length < k → (srch2 n A k (d, tk)).Nodup
  | 0, d, tk, X, hk => by omega
  | k + 1, d, tk, X, hk => by
    have hn := L.n1
    show (match free n tk with | [] => [sortR gtI d] | f :: _ => (nxt n A f d tk).reverse.flatMap (srch2 n A k)).Nodup
    cases e : free n tk with
    | nil => exact List.pairwise_singleton _ _
    | cons f r =>
      have hf : f ∈ free n tk := by rw [e]; exact List.mem_cons_self
      obtain ⟨⟨f0, f1⟩, f2⟩ := (free_mem hn).mp hf
      show ((nxt n A f d tk).reverse.flatMap (srch2 n A k)).Nodup
      unfold List.Nodup
      rw [List.pairwise_flatMap]
      refine ⟨?_, ?_⟩
      · rintro ⟨d2, tk2⟩ hy
        obtain ⟨X2, le⟩ := nxt_nd L X hf (List.mem_reverse.mp hy)
        exact srch2_nodup L k d2 tk2 X2 (by dsimp only at le; omega)
      · rw [List.pairwise_reverse]
        have m1 : ∀ a ∈ A, ∀ y, (if (hrs n A (shf n f a)).any fun h => tk.contains h then none else some (d ++ [shf n f a], sortR gtI (tk ++ hrs n A (shf n f a)))) = some y → ∀ B ∈ srch2 n A k y, (Lot n B ∧ fillsB n A B = true) ∧ shf n f a ∈ B := by
          intro a ha y ey B hB
          have hy : y ∈ nxt n A f d tk := List.mem_filterMap.mpr ⟨a, ha, ey⟩
          split at ey
          · cases ey
          · cases ey
            obtain ⟨X2, le⟩ := nxt_nd L X hf hy
            obtain ⟨LB, fB, hs⟩ := (srch2_mem L k _ _ X2 (by dsimp only at le; omega) B).mp hB
            exact ⟨⟨LB, fB⟩, hs _ (by simp)⟩
        unfold nxt
        rw [List.pairwise_filterMap]
        refine L.nodup.imp_of_mem fun {a a2} ha ha2 ne y ey y2 ey2 B hB B2 hB2 eq => ?_
        subst eq
        obtain ⟨⟨LB, fB⟩, s1⟩ := m1 a2 ha2 y2 ey2 B hB
        obtain ⟨_, s2⟩ := m1 a ha y ey B hB2
        exact ne (fill_uniq hn LB.rg fB ha ha2 s2 s1 ((at_shf hn f0 f1).trans (at_shf hn f0 f1).symm)).1
end EV
set_option maxHeartbeats 0
namespace EV
open PySem PySem.Spec PyProof.Rows L2 RZ
/-! how many nodes, how many leaves -/
def fr (n : Int) (x : List Int × List Int) : Nat := (free n x.2).length
def lft (n : Int) (A : List Int) (x : List Int × List Int) : Nat := n.toNat / A.length - x.1.length
theorem idx_len (n : Int) (A B : List Int) : (idx n A B).length = A.length * B.length := by
  unfold idx
  induction A with
  | nil => rw [List.length_nil, Nat.zero_mul]; rfl
  | cons a A ih => rw [List.flatMap_cons, List.length_append, List.length_map, List.length_cons, Nat.add_mul, ih]; omega
theorem Nd.less {n : Int} {A d tk : List Int} (L : Lot n A) (X : Nd n A (d, tk)) {f : Int} (hf : f ∈ free n tk) (hq : n.toNat / A.length * A.length = n.toNat) : d.length < n.toNat / A.length := by
  obtain ⟨⟨f0, f1⟩, f2⟩ := (free_mem L.n1).mp hf
  have nf : f.toNat ∉ idx n A d := fun q => f2 (X.tk.mem_iff.mpr (List.mem_map.mpr ⟨f.toNat, q, by omega⟩))
  have := nodup_le (List.nodup_cons.mpr ⟨nf, X.nd⟩) (m := List.range n.toNat) fun x hx => by
    rcases List.mem_cons.mp hx with rfl | q
    · exact List.mem_range.mpr (by omega)
    · exact List.mem_range.mpr (idx_lt L.n1 x q)
  rw [List.length_cons, List.length_range, idx_len, Nat.mul_comm, ← hq] at this
  exact Nat.lt_of_mul_lt_mul_right (show d.length * A.length < n.toNat / A.length * A.length by omega)
theorem nxt_len (n : Int) (A : List Int) (f : Int) (d tk : List Int) : (nxt n A f d tk).length ≤ A.length := List.length_filterMap_le _ _
theorem nxt_d {n : Int} {A : List Int} {f : Int} {d tk : List Int} {y : List Int × List Int} (hy : y ∈ nxt n A f d tk) : y.1.length = d.length + 1 := by
  obtain ⟨a, _, _, rfl⟩ := nxt_mem.mp hy
  rw [List.length_append]
  rfl
theorem flat_le {α β : Type} {f : α → List β} {m : Nat} : ∀ (l : List α), (∀ x ∈ l, (f x).length ≤ m) → (l.flatMap f).length ≤ l.length * m
  | [], _ => Nat.zero_le _
  | x :: r, h => by
    have := flat_le r fun y hy => h y (by simp [hy])
    have := h x (by simp)
    rw [List.flatMap_cons, List.length_append, List.length_cons, Nat.add_mul]
    omega
theorem srch2_len {n : Int} {A : List Int} (L : Lot n A) (hq : n.toNat / A.length * A.length = n.toNat) : ∀ (k : Nat) (d tk : List Int), Nd n A (d, tk) → (srch2 n A k (d, tk)).length ≤ A.length ^ (lft n A (d, tk))
  | 0, d, tk, _ => Nat.zero_le _
  | k + 1, d, tk, X => by
    have a1 : 1 ≤ A.length := List.length_pos_iff.mpr L.ne
    show (match free n tk with | [] => [sortR gtI d] | f :: _ => (nxt n A f d tk).reverse.flatMap (srch2 n A k)).length ≤ _
    cases e : free n tk with
    | nil => exact Nat.one_le_pow _ _ a1
    | cons f r =>
      have hf : f ∈ free n tk := by rw [e]; exact List.mem_cons_self
      have lt := X.less L hf hq
      show ((nxt n A f d tk).reverse.flatMap (srch2 n A k)).length ≤ _
      have h1 : lft n A (d, tk) = (n.toNat / A.length - (d.length + 1)) + 1 := by
        unfold lft
        dsimp only
        omega
      refine Nat.le_trans (flat_le (m := A.length ^ (n.toNat / A.length - (d.length + 1))) _ fun y hy => ?_) ?_
      · have hy := List.mem_reverse.mp hy
        obtain ⟨X2, _⟩ := nxt_nd L X hf hy
        have := srch2_len L hq k y.1 y.2 X2
        unfold lft at this
        dsimp only at this
        rw [nxt_d hy] at this
        exact this
      · rw [h1, Nat.pow_succ, List.length_reverse, Nat.mul_comm]
        exact Nat.mul_le_mul_left _ (nxt_len n A f d tk)
def w2 (n : Int) (A : List Int) (x : List Int × List Int) : Nat := (A.length + 1) ^ lft n A x
def wt2 (n : Int) (A : List Int) (S : List (List Int × List Int)) : Nat := (S.map (w2 n A)).sum
theorem wt2_app (n : Int) (A : List Int) (S T : List (List Int × List Int)) : wt2 n A (S ++ T) = wt2 n A S + wt2 n A T := by
  unfold wt2
  rw [List.map_append, List.sum_append]
theorem wt2_one (n : Int) (A : List Int) (x : List Int × List Int) : wt2 n A [x] = w2 n A x := by
  unfold wt2
  show w2 n A x + 0 = _
  rw [Nat.add_zero]
theorem w2_pos (n : Int) (A : List Int) (x : List Int × List Int) : 1 ≤ w2 n A x := Nat.one_le_pow _ _ (by omega)
theorem wt2_len (n : Int) (A : List Int) : ∀ S : List (List Int × List Int), S.length ≤ wt2 n A S
  | [] => Nat.le_refl _
  | x :: S => by
    have := wt2_len n A S
    have := w2_pos n A x
    show S.length + 1 ≤ w2 n A x + wt2 n A S
    omega
theorem sum_le {α : Type} {f : α → Nat} {m : Nat} : ∀ (l : List α), (∀ x ∈ l, f x ≤ m) → (l.map f).sum ≤ l.length * m
  | [], _ => Nat.zero_le _
  | x :: r, h => by
    have := sum_le r fun y hy => h y (by simp [hy])
    have := h x (by simp)
    rw [List.map_cons, List.sum_cons, List.length_cons, Nat.add_mul]
    omega
theorem wt2_nxt {n : Int} {A d tk : List Int} (L : Lot n A) (hq : n.toNat / A.length * A.length = n.toNat) (X : Nd n A (d, tk)) {f : Int} (hf : f ∈ free n tk) : wt2 n A (nxt n A f d tk) + 1 ≤ w2 n A (d, tk) := by
  have lt := X.less L hf hq
  have h1 : lft n A (d, tk) = (n.toNat / A.length - (d.length + 1)) + 1 := by
    unfold lft
    dsimp only
    omega
  have := sum_le (f := w2 n A) (m := (A.length + 1) ^ (n.toNat / A.length - (d.length + 1))) (nxt n A f d tk) fun y hy => by
    unfold w2 lft
    rw [nxt_d hy]
    exact Nat.le_refl _
  have h2 : (nxt n A f d tk).length * (A.length + 1) ^ (n.toNat / A.length - (d.length + 1)) ≤ A.length * (A.length + 1) ^ (n.toNat / A.length - (d.length + 1)) := Nat.mul_le_mul_right _ (nxt_len n A f d tk)
  have h3 : 1 ≤ (A.length + 1) ^ (n.toNat / A.length - (d.length + 1)) := Nat.one_le_pow _ _ (by omega)
  unfold wt2 w2
  rw [h1, Nat.pow_succ, Nat.mul_add, Nat.mul_one, Nat.mul_comm]
  unfold w2 at this
  omega
theorem few : ∀ a, a ≤ 12 → ∀ q, q ≤ 12 → a * q ≤ 12 → a ^ (q - 1) ≤ 32 ∧ (a + 1) ^ (q - 1) ≤ 2048 := by decide
theorem srch2_fuel {n : Int} {A : List Int} (L : Lot n A) : ∀ (k k2 : Nat) (d tk : List Int), Nd n A (d, tk) → (free n tk).length < k → (free n tk).length < k2 → srch2 n A k (d, tk) = srch2 n A k2 (d, tk)
  | 0, _, _, _, _, hk, _ => by omega
  | k + 1, 0, _, _, _, _, hk => by omega
  | k + 1, k2 + 1, d, tk, X, h1, h2 => by
    show (match free n tk with | [] => [sortR gtI d] | f :: _ => (nxt n A f d tk).reverse.flatMap (srch2 n A k)) = (match free n tk with | [] => [sortR gtI d] | f :: _ => (nxt n A f d tk).reverse.flatMap (srch2 n A k2))
    cases e : free n tk with
    | nil => rfl
    | cons f r =>
      have hf : f ∈ free n tk := by rw [e]; exact List.mem_cons_self
      show (nxt n A f d tk).reverse.flatMap (srch2 n A k) = (nxt n A f d tk).reverse.flatMap (srch2 n A k2)
      rw [List.flatMap_def, List.flatMap_def]
      congr 1
      refine List.map_congr_left fun y hy => ?_
      obtain ⟨X2, le⟩ := nxt_nd L X hf (List.mem_reverse.mp hy)
      exact srch2_fuel L k k2 y.1 y.2 X2 (by omega) (by omega)
def res2 (n : Int) (A : List Int) (S : List (List Int × List Int)) : List (List Int) := S.reverse.flatMap fun x => srch2 n A (fr n x + 1) x
theorem res2_app (n : Int) (A : List Int) (S T : List (List Int × List Int)) : res2 n A (S ++ T) = res2 n A T ++ res2 n A S := by
  unfold res2
  rw [List.reverse_append, List.flatMap_append]
theorem res2_leaf {n : Int} {A d tk : List Int} (e : free n tk = []) : res2 n A [(d, tk)] = [sortR gtI d] := by
  show (srch2 n A (fr n (d, tk) + 1) (d, tk)) ++ [] = _
  rw [List.append_nil]
  show (match free n tk with | [] => [sortR gtI d] | f :: _ => (nxt n A f d tk).reverse.flatMap (srch2 n A (fr n (d, tk)))) = _
  rw [e]
theorem res2_node {n : Int} {A d tk : List Int} (L : Lot n A) (X : Nd n A (d, tk)) {f : Int} {r : List Int} (e : free n tk = f :: r) : res2 n A [(d, tk)] = res2 n A (nxt n A f d tk) := by
  have hf : f ∈ free n tk := by rw [e]; exact List.mem_cons_self
  show (srch2 n A (fr n (d, tk) + 1) (d, tk)) ++ [] = _
  rw [List.append_nil]
  show (match free n tk with | [] => [sortR gtI d] | f :: _ => (nxt n A f d tk).reverse.flatMap (srch2 n A (fr n (d, tk)))) = _
  rw [e]
  show (nxt n A f d tk).reverse.flatMap (srch2 n A (fr n (d, tk))) = _
  unfold res2
  rw [List.flatMap_def, List.flatMap_def]
  congr 1
  refine List.map_congr_left fun y hy => ?_
  obtain ⟨X2, le⟩ := nxt_nd L X hf (List.mem_reverse.mp hy)
  exact srch2_fuel L _ _ y.1 y.2 X2 (by unfold fr; exact le) (by unfold fr; omega)
end EV
set_option maxHeartbeats 0
namespace EV
open PySem PySem.Spec PyProof.Rows L2 RZ
/-! partners: the loop -/
abbrev ndD (x : List Int × List Int) : D := .tup [tZ x.1, tZ x.2]
theorem nilL (f : Bool → Bool) : ∀ xs : List D, dok 60 (.lst xs) = true → oEqFK f (.lst xs) (.lst []) = some (.bl (f xs.isEmpty))
  | [], _ => eq_same rfl
  | a :: r, h => by
    rw [oEqFK_eq]
    show slowEq f (.lst (a :: r)) (.lst []) = _
    unfold slowEq
    rw [h]
    rfl
theorem dok_nd (x : List Int × List Int) : dok 59 (ndD x) = true := by
  show ([tZ x.1, tZ x.2].all (dok 58)) = true
  have h : ∀ l : List Int, dok 58 (tZ l) = true := fun l => List.all_eq_true.mpr fun d hd => by
    obtain ⟨a, _, rfl⟩ := List.mem_map.mp hd
    rfl
  rw [List.all_cons, List.all_cons, h, h]
  rfl
theorem dok_tz (x : List Int) : dok 59 (tZ x) = true := List.all_eq_true.mpr fun d hd => by
  obtain ⟨a, _, rfl⟩ := List.mem_map.mp hd
  rfl
theorem memK_b (i : Int) : ∀ l : List Int, memK (.int i) (l.map D.int) = l.contains i
  | [] => rfl
  | x :: r => by
    show bK (eqIK x i) true (memK (.int i) (r.map D.int)) = _
    rw [eqIK_eq, memK_b i r, List.contains_cons]
    by_cases e : x = i
    · subst e
      rw [decide_eq_true rfl, beq_self_eq_true]
      rfl
    · rw [decide_eq_false e, beq_false_of_ne (fun q => e q.symm)]
      rfl
theorem inT (f : Bool → Bool) (i : Int) (l : List Int) : oInK f (.int i) (tZ l) = some (.bl (f (l.contains i))) := by
  show bK (bK (dokK 60 (.int i)) (allK (dokK 60) (l.map D.int)) false) (some (D.bl (f (memK (.int i) (l.map D.int))))) none = _
  have a : allK (dokK 60) (l.map D.int) = true := by
    rw [allK_eq, List.all_eq_true]
    intro x hx
    obtain ⟨j, _, rfl⟩ := List.mem_map.mp hx
    rfl
  rw [a, memK_b]
  rfl
abbrev q7 (n : Int) (A : List Int) (F : List (List Int)) (S : List (List Int × List Int)) (c : Int) (x5 x6 x7 x8 x9 x10 x11 x12 : Option D) : AS := [some (.int n), some (tZ A), some (.lst (F.map tupZ)), some (.lst (S.map ndD)), some (.int c), x5, x6, x7, x8, x9, x10, x11, x12]
noncomputable abbrev cc7 : MS := (sSqK (sAsP (aNm s10) (p2 oModK (p1 oInt (p2 oSubK (p2 oIxK g5 (pK (.int 0))) g8)) g0)) (sSqK (sAsP (aNm s11) (pLc (pSeq g1) (aNm s12) (fun st => s12 none (id st)) pYes (p2 oModK (p1 oInt (p2 oAddK g10 g12)) g0))) (sSqK (sIfP (pNotT (pT (p1 oAnyK (pLc (pSeq g11) (aNm s9) (fun st => s9 none (id st)) pYes (p2 (oInK id) g9 g7))))) (sSqK (sAppC g3 s3 (pTup (pCons (p2 oAddK g6 (pTup (pCons g10 pNil))) (pCons (p1 oTuple (p1 oSortK (p2 oAddK g7 (p1 oTuple g11)))) pNil)))) sSkip) sSkip) sSkip)))
theorem addZZ (h k : List Int) (hl : h.length ≤ 1000) (hk : k.length ≤ 1000) : oAddK (tZ h) (tZ k) = some (tZ (h ++ k)) := by
  rw [oAddK_eq]
  show (if lenOk ((h.map D.int).length + (k.map D.int).length) = true then some (D.tup (h.map D.int ++ k.map D.int)) else none) = _
  have l : lenOk ((h.map D.int).length + (k.map D.int).length) = true := Nat.ble_eq_true_of_le (by rw [List.length_map, List.length_map]; omega)
  rw [if_pos l, show tZ (h ++ k) = .tup ((h ++ k).map D.int) from rfl, List.map_append]
theorem tup_l (xs : List D) : oTuple (.lst xs) = some (.tup xs) := rfl
theorem tup_t (xs : List D) : oTuple (.tup xs) = some (.tup xs) := rfl
theorem all_any {α : Type} (f : α → Bool) (l : List α) : oAnyK (.lst (l.map fun a => .bl (f a))) = some (.bl (l.any f)) := by
  rw [any_l, anyB_mapg]
  rfl
theorem tup2_ok {a b : PX} {st : AS} {x y : D} (h1 : a st = some x) (h2 : b st = some y) (n1 : nHK x = true) (n2 : nHK y = true) : pTup (pCons a (pCons b pNil)) st = some (.tup [x, y]) := by
  have e : pCons a (pCons b pNil) st = some [x, y] := by
    show ooK (a st) (fun x => ooK (ooK (b st) fun x => ooK (pNil st) fun xs => some (x :: xs)) fun xs => some (x :: xs)) = _
    rw [h1, h2]
    rfl
  unfold pTup
  rw [e, ooK_some, nh_all_cons, nh_all_cons, n1, n2]
  rfl
def nx1 (n : Int) (A : List Int) (f : Int) (d tk : List Int) (a : Int) : Option (List Int × List Int) := if (hrs n A (shf n f a)).any fun h => tk.contains h then none else some (d ++ [shf n f a], sortR gtI (tk ++ hrs n A (shf n f a)))
theorem nxt_1 (n : Int) (A : List Int) (f : Int) (d tk : List Int) : nxt n A f d tk = A.filterMap (nx1 n A f d tk) := rfl
theorem cc7_ok {n : Int} {A : List Int} {F : List (List Int)} {S : List (List Int × List Int)} {c f a : Int} {r d tk : List Int} {x9 x10 x11 x12 : Option D} (hn : 1 ≤ n) (hA : A.length ≤ 900) (hd : d.length ≤ 900) (ht : tk.length ≤ 900) (hS : S.length ≤ 10000) :
    cc7 (q7 n A F S c (some (.lst ((f :: r).map D.int))) (some (tZ d)) (some (tZ tk)) (some (.int a)) x9 x10 x11 x12) = .ok (.nx (q7 n A F (S ++ [a].filterMap (nx1 n A f d tk)) c (some (.lst ((f :: r).map D.int))) (some (tZ d)) (some (tZ tk)) (some (.int a)) x9 (some (.int (shf n f a))) (some (.lst ((hrs n A (shf n f a)).map D.int))) x12)) := by
  have e1 : (p2 oModK (p1 oInt (p2 oSubK (p2 oIxK g5 (pK (.int 0))) g8)) g0) (q7 n A F S c (some (.lst ((f :: r).map D.int))) (some (tZ d)) (some (tZ tk)) (some (.int a)) x9 x10 x11 x12) = some (.int (shf n f a)) := by
    simp only [runK, sSqK, sIfK, sIfP, tOrK, tAndK, tNotK, tValK, liE, liT, liL, liI, liO, pNotT, pT, p1, p2, pK, pCons, pNil, pYes, pSeq, pAndE, pOrE, pNotE, pAndT, pOrT, pChain, pIf, pTup, pLst, pLc, pDic, pR1, pR2, sRetP, sRetK, sAsP, sAsK, sAoP, sAoK, sDrpK, sPar2K, sPar3K, sForP, sForK, sAppC, mAndK, mOrK, mNotK, mIfK, lConsK, mTupK, mLstK, mMK, m1K, m2K, mLcK, mCallP, mCallK, in_nil, in_cons, re_zero, re_succ, bk_ok, bk_dr, opK_some, opK_none, ooK_some, ooK_none, bK_t, bK_f, hd_cons, tl_cons, s0_cons, st_cons, fl_nx, fl_rt, fl_bk, fl_ct, rt_rt, rt_nx, dB_bl, dI_int, sq_tup, sq_lst, at_tup, al_nil, al_cons, nm_set, isi_tup_t, nh_int, nh_tup, nh_lst, nh_bl, nh_all_nil, nh_all_cons, ln_nil, ln_cons, lc_nil, lc_cons, lk_nil, lk_cons, fo_nil, fo_cons, all_l, any_l, allB_nil, anyB_nil, allB_cons, anyB_cons, ix_t0, ix_l0, ix_l1, ix_t1, ix_t2, ix_t3, pSl, pNo, pPart, pEnum, skip_nx, seq_k, fclk_eq, fck_eq, len_t, len_l, eq_i, ge_i, le_i, lt_i, gt_i, add_i, sub_i, int_i, chl, chle, id_eq, ble_ok, Nat.reduceAdd, List.length_cons, List.length_nil, decide_true, decide_false, Bool.not_true, Bool.not_false, Nat.zero_add, Nat.reduceLeDiff, Int.cast_ofNat_Int, g0, s0, g1, s1, g2, s2, g3, s3, g4, s4, g5, s5, g6, s6, g7, s7, g8, s8, g9, s9, g10, s10, g11, s11, g12, s12, g13, s13, g14, s14, g15, s15, g16, s16, g17, s17, g18, s18, g19, s19, g20, s20, g21, s21, g22, s22, g23, s23, g24, s24, g25, s25, g26, s26, g27, s27, g28, s28, g29, s29, g30, s30, g31, s31, g32, s32, g33, s33, g34, s34, g35, s35, g36, s36, g37, s37, g38, s38, g39, s39, List.map_cons, mod_i (show n ≠ 0 by omega), shf]
  unfold cc7
  rw [sq_nx (asP_ok (st2 := q7 n A F S c (some (.lst ((f :: r).map D.int))) (some (tZ d)) (some (tZ tk)) (some (.int a)) x9 (some (.int (shf n f a))) x11 x12) e1 rfl)]
  have e2 := pLc_of (A := aNm s12) (w := fun st => s12 none (id st)) (c := pYes) (e := (p2 oModK (p1 oInt (p2 oAddK g10 g12)) g0)) (st := q7 n A F S c (some (.lst ((f :: r).map D.int))) (some (tZ d)) (some (tZ tk)) (some (.int a)) x9 (some (.int (shf n f a))) x11 x12) (s := pSeq g1) (g := D.int) (k := D.int) (t := fun o => (shf n f a + o).fmod n) A rfl (fun o ho => ⟨q7 n A F S c (some (.lst ((f :: r).map D.int))) (some (tZ d)) (some (tZ tk)) (some (.int a)) x9 (some (.int (shf n f a))) x11 (some (.int o)), rfl, rfl, by
    simp only [runK, sSqK, sIfK, sIfP, tOrK, tAndK, tNotK, tValK, liE, liT, liL, liI, liO, pNotT, pT, p1, p2, pK, pCons, pNil, pYes, pSeq, pAndE, pOrE, pNotE, pAndT, pOrT, pChain, pIf, pTup, pLst, pLc, pDic, pR1, pR2, sRetP, sRetK, sAsP, sAsK, sAoP, sAoK, sDrpK, sPar2K, sPar3K, sForP, sForK, sAppC, mAndK, mOrK, mNotK, mIfK, lConsK, mTupK, mLstK, mMK, m1K, m2K, mLcK, mCallP, mCallK, in_nil, in_cons, re_zero, re_succ, bk_ok, bk_dr, opK_some, opK_none, ooK_some, ooK_none, bK_t, bK_f, hd_cons, tl_cons, s0_cons, st_cons, fl_nx, fl_rt, fl_bk, fl_ct, rt_rt, rt_nx, dB_bl, dI_int, sq_tup, sq_lst, at_tup, al_nil, al_cons, nm_set, isi_tup_t, nh_int, nh_tup, nh_lst, nh_bl, nh_all_nil, nh_all_cons, ln_nil, ln_cons, lc_nil, lc_cons, lk_nil, lk_cons, fo_nil, fo_cons, all_l, any_l, allB_nil, anyB_nil, allB_cons, anyB_cons, ix_t0, ix_l0, ix_l1, ix_t1, ix_t2, ix_t3, pSl, pNo, pPart, pEnum, skip_nx, seq_k, fclk_eq, fck_eq, len_t, len_l, eq_i, ge_i, le_i, lt_i, gt_i, add_i, sub_i, int_i, chl, chle, id_eq, ble_ok, Nat.reduceAdd, List.length_cons, List.length_nil, decide_true, decide_false, Bool.not_true, Bool.not_false, Nat.zero_add, Nat.reduceLeDiff, Int.cast_ofNat_Int, g0, s0, g1, s1, g2, s2, g3, s3, g4, s4, g5, s5, g6, s6, g7, s7, g8, s8, g9, s9, g10, s10, g11, s11, g12, s12, g13, s13, g14, s14, g15, s15, g16, s16, g17, s17, g18, s18, g19, s19, g20, s20, g21, s21, g22, s22, g23, s23, g24, s24, g25, s25, g26, s26, g27, s27, g28, s28, g29, s29, g30, s30, g31, s31, g32, s32, g33, s33, g34, s34, g35, s35, g36, s36, g37, s37, g38, s38, g39, s39, mod_i (show n ≠ 0 by omega)], rfl⟩) (by omega)
  rw [sq_nx (asP_ok (st2 := q7 n A F S c (some (.lst ((f :: r).map D.int))) (some (tZ d)) (some (tZ tk)) (some (.int a)) x9 (some (.int (shf n f a))) (some (.lst ((hrs n A (shf n f a)).map D.int))) x12) e2 rfl)]
  have hl : (hrs n A (shf n f a)).length ≤ 900 := by
    unfold hrs
    rw [List.length_map]
    exact hA
  have en : nx1 n A f d tk a = if (hrs n A (shf n f a)).any fun h => tk.contains h then none else some (d ++ [shf n f a], sortR gtI (tk ++ hrs n A (shf n f a))) := rfl
  generalize hrs n A (shf n f a) = W at *
  generalize shf n f a = s at *
  have e3 := lcP_mapg (A := aNm s9) (st := q7 n A F S c (some (.lst ((f :: r).map D.int))) (some (tZ d)) (some (tZ tk)) (some (.int a)) none (some (.int s)) (some (.lst (W.map D.int))) x12) (c := pYes) (e := (p2 (oInK id) g9 g7)) (g := D.int) (h := fun h => .bl (tk.contains h)) W 0 (fun h hh => ⟨q7 n A F S c (some (.lst ((f :: r).map D.int))) (some (tZ d)) (some (tZ tk)) (some (.int a)) (some (.int h)) (some (.int s)) (some (.lst (W.map D.int))) x12, rfl, rfl, p2_of rfl rfl (inT id h tk), rfl⟩) (by omega)
  have t : (pNotT (pT (p1 oAnyK (pLc (pSeq g11) (aNm s9) (fun st => s9 none (id st)) pYes (p2 (oInK id) g9 g7))))) (q7 n A F S c (some (.lst ((f :: r).map D.int))) (some (tZ d)) (some (tZ tk)) (some (.int a)) x9 (some (.int s)) (some (.lst (W.map D.int))) x12) = some (!(W.any fun h => tk.contains h)) := by
    have l : (pLc (pSeq g11) (aNm s9) (fun st => s9 none (id st)) pYes (p2 (oInK id) g9 g7)) (q7 n A F S c (some (.lst ((f :: r).map D.int))) (some (tZ d)) (some (tZ tk)) (some (.int a)) x9 (some (.int s)) (some (.lst (W.map D.int))) x12) = some (.lst (W.map fun h => .bl (tk.contains h))) := by
      unfold pLc
      rw [show pSeq g11 (q7 n A F S c (some (.lst ((f :: r).map D.int))) (some (tZ d)) (some (tZ tk)) (some (.int a)) x9 (some (.int s)) (some (.lst (W.map D.int))) x12) = some (W.map D.int) from rfl, ooK_some]
      show ooK (lcP (aNm s9) pYes (p2 (oInK id) g9 g7) (q7 n A F S c (some (.lst ((f :: r).map D.int))) (some (tZ d)) (some (tZ tk)) (some (.int a)) none (some (.int s)) (some (.lst (W.map D.int))) x12) (W.map D.int) 0) _ = _
      rw [e3]
      rfl
    unfold pNotT pT
    have an : oAnyK (.lst (W.map fun h => .bl (tk.contains h))) = some (.bl (W.any fun h => tk.contains h)) := by
      rw [all_any]
    rw [p1_of l an, ooK_some, dB_bl, ooK_some]
    cases (W.any fun h => tk.contains h) <;> rfl
  refine (sq_nx (st' := q7 n A F (S ++ [a].filterMap (nx1 n A f d tk)) c (some (.lst ((f :: r).map D.int))) (some (tZ d)) (some (tZ tk)) (some (.int a)) x9 (some (.int s)) (some (.lst (W.map D.int))) x12) ?_).trans rfl
  unfold sIfP
  rw [t, opK_some]
  cases e : (W.any fun h => tk.contains h) with
  | true =>
    have : [a].filterMap (nx1 n A f d tk) = [] := by
      rw [List.filterMap_cons, en, e]
      rfl
    rw [this, List.append_nil]
    rfl
  | false =>
    have : [a].filterMap (nx1 n A f d tk) = [(d ++ [s], sortR gtI (tk ++ W))] := by
      rw [List.filterMap_cons, en, e]
      rfl
    rw [this]
    show bK true _ _ = _
    rw [bK_t]
    have x1 : (p2 oAddK g6 (pTup (pCons g10 pNil))) (q7 n A F S c (some (.lst ((f :: r).map D.int))) (some (tZ d)) (some (tZ tk)) (some (.int a)) x9 (some (.int s)) (some (.lst (W.map D.int))) x12) = some (tZ (d ++ [s])) := p2_of rfl rfl (addZ d s (by omega))
    have x2 : (p1 oTuple (p1 oSortK (p2 oAddK g7 (p1 oTuple g11)))) (q7 n A F S c (some (.lst ((f :: r).map D.int))) (some (tZ d)) (some (tZ tk)) (some (.int a)) x9 (some (.int s)) (some (.lst (W.map D.int))) x12) = some (tZ (sortR gtI (tk ++ W))) := p1_of (p1_of (p2_of rfl (p1_of rfl (tup_l _)) (addZZ tk W (by omega) (by omega))) ((sr_t _).trans (sortI_ok _))) rfl
    refine (sq_nx (app_ok (x := ndD (d ++ [s], sortR gtI (tk ++ W))) (xs := S.map ndD) rfl (tup2_ok x1 x2 rfl rfl) rfl (by rw [List.length_map]; omega))).trans ?_
    show R.ok (Fl.nx [some (.int n), some (tZ A), some (.lst (F.map tupZ)), some (.lst (S.map ndD ++ [ndD (d ++ [s], sortR gtI (tk ++ W))])), some (.int c), some (.lst ((f :: r).map D.int)), some (tZ d), some (tZ tk), some (.int a), x9, some (.int s), some (.lst (W.map D.int)), x12]) = R.ok (Fl.nx [some (.int n), some (tZ A), some (.lst (F.map tupZ)), some (.lst ((S ++ [(d ++ [s], sortR gtI (tk ++ W))]).map ndD)), some (.int c), some (.lst ((f :: r).map D.int)), some (tZ d), some (tZ tk), some (.int a), x9, some (.int s), some (.lst (W.map D.int)), x12])
    rw [List.map_append]
    rfl
theorem ll7 {n : Int} {A : List Int} {F : List (List Int)} {c f : Int} {r d tk : List Int} {x9 x12 : Option D} (hn : 1 ≤ n) (hA : A.length ≤ 900) (hd : d.length ≤ 900) (ht : tk.length ≤ 900) : ∀ (R : List Int) (S : List (List Int × List Int)) (x8 x10 x11 : Option D), S.length + R.length ≤ 10000 → ∃ y8 y10 y11, forK (aNm s8) cc7 (R.map D.int) (q7 n A F S c (some (.lst ((f :: r).map D.int))) (some (tZ d)) (some (tZ tk)) x8 x9 x10 x11 x12) = .ok (.nx (q7 n A F (S ++ R.filterMap (nx1 n A f d tk)) c (some (.lst ((f :: r).map D.int))) (some (tZ d)) (some (tZ tk)) y8 x9 y10 y11 x12))
  | [], S, x8, x10, x11, _ => ⟨x8, x10, x11, by rw [List.filterMap_nil, List.append_nil]; rfl⟩
  | a :: R, S, x8, x10, x11, h => by
    rw [List.length_cons] at h
    have l1 : ([a].filterMap (nx1 n A f d tk)).length ≤ 1 := List.length_filterMap_le _ _
    obtain ⟨y8, y10, y11, e⟩ := ll7 (x9 := x9) (x12 := x12) (F := F) (c := c) (f := f) (r := r) hn hA hd ht R (S ++ [a].filterMap (nx1 n A f d tk)) (some (.int a)) (some (.int (shf n f a))) (some (.lst ((hrs n A (shf n f a)).map D.int))) (by rw [List.length_append]; omega)
    refine ⟨y8, y10, y11, ?_⟩
    rw [List.map_cons, fo_cons]
    show bindK (cc7 (q7 n A F S c (some (.lst ((f :: r).map D.int))) (some (tZ d)) (some (tZ tk)) (some (.int a)) x9 x10 x11 x12)) _ = _
    rw [cc7_ok hn hA hd ht (by omega), bk_ok, fl_nx, e, List.append_assoc, ← List.filterMap_append]
    rfl
end EV
set_option maxHeartbeats 0
namespace EV
open PySem PySem.Spec PyProof.Rows L2 RZ
noncomputable abbrev tt7 : MT := (liT (pT (p2 (oEqFK (fun b => !b)) g3 (pLst pNil))))
noncomputable abbrev dd7 : MS := (sSqK (sAsP (aNm s5) (pLc (pR1 g0) (aNm s9) (fun st => s9 none (id st)) (pT (p2 (oInK (fun b => !b)) g9 g7)) g9)) (sSqK (sIfP (pT (p2 (oEqFK id) g5 (pLst pNil))) (sSqK (sAppC g2 s2 (p1 oTuple (p1 oSortK g6))) sSkip) (sSqK (sForP (pSeq g1) (aNm s8) cc7) sSkip)) sSkip))
noncomputable abbrev bb7 : MS := (sSqK (sAsK (aTp (aCons (aNm s6) (aCons (aNm s7) aNil))) (mPopK g3 s3)) (sSqK (sAugP (fun i j => i + j) g4 s4 (pK (.int 1))) (sSqK (sIfP (pT (p2 oGtK g4 (pK (.int 50000)))) (sSqK sNev sSkip) sSkip) dd7)))
theorem pop7 {n : Int} {A : List Int} {F : List (List Int)} {S : List (List Int × List Int)} {h : List Int × List Int} {c : Int} {x5 x6 x7 x8 x9 x10 x11 x12 : Option D} : mPopK g3 s3 (q7 n A F (S ++ [h]) c x5 x6 x7 x8 x9 x10 x11 x12) = .ok (ndD h, q7 n A F S c x5 x6 x7 x8 x9 x10 x11 x12) := by
  unfold mPopK
  rw [show g3 (q7 n A F (S ++ [h]) c x5 x6 x7 x8 x9 x10 x11 x12) = some (.lst ((S ++ [h]).map ndD)) from rfl, opK_some]
  show opK (lastK ((S ++ [h]).map ndD)) (fun d => R.ok (d, s3 (some (.lst (dropK ((S ++ [h]).map ndD)))) (q7 n A F (S ++ [h]) c x5 x6 x7 x8 x9 x10 x11 x12))) = _
  rw [lastK_eq, dropK_eq, List.map_append, List.map_cons, List.map_nil, List.dropLast_concat, List.length_append]
  show opK ((S.map ndD ++ [ndD h])[(S.map ndD).length]?) _ = _
  rw [List.getElem?_append_right (Nat.le_refl _), Nat.sub_self]
  rfl
theorem ifP_t {t : PB} {a b : MS} {st : AS} (h : t st = some true) : sIfP t a b st = a st := by
  unfold sIfP
  rw [h]
  rfl
theorem ifP_f {t : PB} {a b : MS} {st : AS} (h : t st = some false) : sIfP t a b st = b st := by
  unfold sIfP
  rw [h]
  rfl
theorem pT_of {e : PX} {st : AS} {b : Bool} (h : e st = some (.bl b)) : pT e st = some b := by
  unfold pT
  rw [h]
  rfl
theorem Nd.dlen {n : Int} {A d tk : List Int} (L : Lot n A) (X : Nd n A (d, tk)) : d.length ≤ 12 ∧ tk.length ≤ 12 := by
  have e := nodup_le X.nd (m := List.range n.toNat) fun x hx => List.mem_range.mpr (idx_lt L.n1 x hx)
  have p := X.tk.length_eq
  have n2 := L.n2
  have a1 : 1 ≤ A.length := List.length_pos_iff.mpr L.ne
  rw [List.length_range, idx_len] at e
  rw [List.length_map, idx_len] at p
  have := Nat.mul_le_mul_right d.length a1
  dsimp only at *
  omega
theorem sortd {d : List Int} : oSortK (tZ d) = some (.lst ((sortR gtI d).map D.int)) := (sr_t _).trans (sortI_ok _)
theorem bb7_ok {n : Int} {A : List Int} (L : Lot n A) {F : List (List Int)} {S : List (List Int × List Int)} {c : Int} {d tk : List Int} (X : Nd n A (d, tk)) {x5 x6 x7 x8 x9 x10 x11 x12 : Option D} (hc : c ≤ 40000) (hF : F.length ≤ 9000) (hS : S.length ≤ 9000) :
    ∃ y5 y8 y10 y11, bb7 (q7 n A F (S ++ [(d, tk)]) c x5 x6 x7 x8 x9 x10 x11 x12) = .ok (.nx (q7 n A (match free n tk with | [] => F ++ [sortR gtI d] | _ :: _ => F) (match free n tk with | [] => S | f :: _ => S ++ nxt n A f d tk) (c + 1) y5 (some (tZ d)) (some (tZ tk)) y8 x9 y10 y11 x12)) := by
  have n1 := L.n1
  have n2 := L.n2
  have hA := len12 L
  obtain ⟨hd, ht⟩ := X.dlen L
  have cg : decide ((50000 : Int) < c + 1) = false := decide_eq_false (by omega)
  have e0 : ∀ K : MS, sSqK (sAsK (aTp (aCons (aNm s6) (aCons (aNm s7) aNil))) (mPopK g3 s3)) K (q7 n A F (S ++ [(d, tk)]) c x5 x6 x7 x8 x9 x10 x11 x12) = K (q7 n A F S c x5 (some (tZ d)) (some (tZ tk)) x8 x9 x10 x11 x12) := fun K => sq_nx (asK_ok pop7 rfl)
  unfold bb7
  rw [e0]
  have e1 : ∀ K : MS, sSqK (sAugP (fun i j => i + j) g4 s4 (pK (.int 1))) K (q7 n A F S c x5 (some (tZ d)) (some (tZ tk)) x8 x9 x10 x11 x12) = K (q7 n A F S (c + 1) x5 (some (tZ d)) (some (tZ tk)) x8 x9 x10 x11 x12) := fun K => sq_nx (by
    unfold sAugP
    simp only [runK, sSqK, sIfK, sIfP, tOrK, tAndK, tNotK, tValK, liE, liT, liL, liI, liO, pNotT, pT, p1, p2, pK, pCons, pNil, pYes, pSeq, pAndE, pOrE, pNotE, pAndT, pOrT, pChain, pIf, pTup, pLst, pLc, pDic, pR1, pR2, sRetP, sRetK, sAsP, sAsK, sAoP, sAoK, sDrpK, sPar2K, sPar3K, sForP, sForK, sAppC, mAndK, mOrK, mNotK, mIfK, lConsK, mTupK, mLstK, mMK, m1K, m2K, mLcK, mCallP, mCallK, in_nil, in_cons, re_zero, re_succ, bk_ok, bk_dr, opK_some, opK_none, ooK_some, ooK_none, bK_t, bK_f, hd_cons, tl_cons, s0_cons, st_cons, fl_nx, fl_rt, fl_bk, fl_ct, rt_rt, rt_nx, dB_bl, dI_int, sq_tup, sq_lst, at_tup, al_nil, al_cons, nm_set, isi_tup_t, nh_int, nh_tup, nh_lst, nh_bl, nh_all_nil, nh_all_cons, ln_nil, ln_cons, lc_nil, lc_cons, lk_nil, lk_cons, fo_nil, fo_cons, all_l, any_l, allB_nil, anyB_nil, allB_cons, anyB_cons, ix_t0, ix_l0, ix_l1, ix_t1, ix_t2, ix_t3, pSl, pNo, pPart, pEnum, skip_nx, seq_k, fclk_eq, fck_eq, len_t, len_l, eq_i, ge_i, le_i, lt_i, gt_i, add_i, sub_i, int_i, chl, chle, id_eq, ble_ok, Nat.reduceAdd, List.length_cons, List.length_nil, decide_true, decide_false, Bool.not_true, Bool.not_false, Nat.zero_add, Nat.reduceLeDiff, Int.cast_ofNat_Int, g0, s0, g1, s1, g2, s2, g3, s3, g4, s4, g5, s5, g6, s6, g7, s7, g8, s8, g9, s9, g10, s10, g11, s11, g12, s12, g13, s13, g14, s14, g15, s15, g16, s16, g17, s17, g18, s18, g19, s19, g20, s20, g21, s21, g22, s22, g23, s23, g24, s24, g25, s25, g26, s26, g27, s27, g28, s28, g29, s29, g30, s30, g31, s31, g32, s32, g33, s33, g34, s34, g35, s35, g36, s36, g37, s37, g38, s38, g39, s39, fcIK_eq]
    rfl)
  rw [e1]
  have e2 : ∀ K : MS, sSqK (sIfP (pT (p2 oGtK g4 (pK (.int 50000)))) (sSqK sNev sSkip) sSkip) K (q7 n A F S (c + 1) x5 (some (tZ d)) (some (tZ tk)) x8 x9 x10 x11 x12) = K (q7 n A F S (c + 1) x5 (some (tZ d)) (some (tZ tk)) x8 x9 x10 x11 x12) := fun K => sq_nx (by
    simp only [runK, sSqK, sIfK, sIfP, tOrK, tAndK, tNotK, tValK, liE, liT, liL, liI, liO, pNotT, pT, p1, p2, pK, pCons, pNil, pYes, pSeq, pAndE, pOrE, pNotE, pAndT, pOrT, pChain, pIf, pTup, pLst, pLc, pDic, pR1, pR2, sRetP, sRetK, sAsP, sAsK, sAoP, sAoK, sDrpK, sPar2K, sPar3K, sForP, sForK, sAppC, mAndK, mOrK, mNotK, mIfK, lConsK, mTupK, mLstK, mMK, m1K, m2K, mLcK, mCallP, mCallK, in_nil, in_cons, re_zero, re_succ, bk_ok, bk_dr, opK_some, opK_none, ooK_some, ooK_none, bK_t, bK_f, hd_cons, tl_cons, s0_cons, st_cons, fl_nx, fl_rt, fl_bk, fl_ct, rt_rt, rt_nx, dB_bl, dI_int, sq_tup, sq_lst, at_tup, al_nil, al_cons, nm_set, isi_tup_t, nh_int, nh_tup, nh_lst, nh_bl, nh_all_nil, nh_all_cons, ln_nil, ln_cons, lc_nil, lc_cons, lk_nil, lk_cons, fo_nil, fo_cons, all_l, any_l, allB_nil, anyB_nil, allB_cons, anyB_cons, ix_t0, ix_l0, ix_l1, ix_t1, ix_t2, ix_t3, pSl, pNo, pPart, pEnum, skip_nx, seq_k, fclk_eq, fck_eq, len_t, len_l, eq_i, ge_i, le_i, lt_i, gt_i, add_i, sub_i, int_i, chl, chle, id_eq, ble_ok, Nat.reduceAdd, List.length_cons, List.length_nil, decide_true, decide_false, Bool.not_true, Bool.not_false, Nat.zero_add, Nat.reduceLeDiff, Int.cast_ofNat_Int, g0, s0, g1, s1, g2, s2, g3, s3, g4, s4, g5, s5, g6, s6, g7, s7, g8, s8, g9, s9, g10, s10, g11, s11, g12, s12, g13, s13, g14, s14, g15, s15, g16, s16, g17, s17, g18, s18, g19, s19, g20, s20, g21, s21, g22, s22, g23, s23, g24, s24, g25, s25, g26, s26, g27, s27, g28, s28, g29, s29, g30, s30, g31, s31, g32, s32, g33, s33, g34, s34, g35, s35, g36, s36, g37, s37, g38, s38, g39, s39, cg])
  rw [e2]
  have e3 := lcP_filterg (A := aNm s9) (st := q7 n A F S (c + 1) x5 (some (tZ d)) (some (tZ tk)) x8 none x10 x11 x12) (c := (pT (p2 (oInK (fun b => !b)) g9 g7))) (e := g9) (g := D.int) (h := D.int) (f := fun h => !(tk.contains h)) (ivl 0 n.toNat) 0 (fun h hh => ⟨q7 n A F S (c + 1) x5 (some (tZ d)) (some (tZ tk)) x8 (some (.int h)) x10 x11 x12, rfl, by
    unfold pT
    rw [p2_of rfl rfl (inT (fun b => !b) h tk)]
    rfl, rfl, rfl⟩) (by rw [ivl_len]; omega)
  have e4 : (pLc (pR1 g0) (aNm s9) (fun st => s9 none (id st)) (pT (p2 (oInK (fun b => !b)) g9 g7)) g9) (q7 n A F S (c + 1) x5 (some (tZ d)) (some (tZ tk)) x8 x9 x10 x11 x12) = some (.lst ((free n tk).map D.int)) := by
    unfold pLc
    have s : (pR1 g0) (q7 n A F S (c + 1) x5 (some (tZ d)) (some (tZ tk)) x8 x9 x10 x11 x12) = some ((ivl 0 n.toNat).map D.int) := by
      simp only [runK, sSqK, sIfK, sIfP, tOrK, tAndK, tNotK, tValK, liE, liT, liL, liI, liO, pNotT, pT, p1, p2, pK, pCons, pNil, pYes, pSeq, pAndE, pOrE, pNotE, pAndT, pOrT, pChain, pIf, pTup, pLst, pLc, pDic, pR1, pR2, sRetP, sRetK, sAsP, sAsK, sAoP, sAoK, sDrpK, sPar2K, sPar3K, sForP, sForK, sAppC, mAndK, mOrK, mNotK, mIfK, lConsK, mTupK, mLstK, mMK, m1K, m2K, mLcK, mCallP, mCallK, in_nil, in_cons, re_zero, re_succ, bk_ok, bk_dr, opK_some, opK_none, ooK_some, ooK_none, bK_t, bK_f, hd_cons, tl_cons, s0_cons, st_cons, fl_nx, fl_rt, fl_bk, fl_ct, rt_rt, rt_nx, dB_bl, dI_int, sq_tup, sq_lst, at_tup, al_nil, al_cons, nm_set, isi_tup_t, nh_int, nh_tup, nh_lst, nh_bl, nh_all_nil, nh_all_cons, ln_nil, ln_cons, lc_nil, lc_cons, lk_nil, lk_cons, fo_nil, fo_cons, all_l, any_l, allB_nil, anyB_nil, allB_cons, anyB_cons, ix_t0, ix_l0, ix_l1, ix_t1, ix_t2, ix_t3, pSl, pNo, pPart, pEnum, skip_nx, seq_k, fclk_eq, fck_eq, len_t, len_l, eq_i, ge_i, le_i, lt_i, gt_i, add_i, sub_i, int_i, chl, chle, id_eq, ble_ok, Nat.reduceAdd, List.length_cons, List.length_nil, decide_true, decide_false, Bool.not_true, Bool.not_false, Nat.zero_add, Nat.reduceLeDiff, Int.cast_ofNat_Int, g0, s0, g1, s1, g2, s2, g3, s3, g4, s4, g5, s5, g6, s6, g7, s7, g8, s8, g9, s9, g10, s10, g11, s11, g12, s12, g13, s13, g14, s14, g15, s15, g16, s16, g17, s17, g18, s18, g19, s19, g20, s20, g21, s21, g22, s22, g23, s23, g24, s24, g25, s25, g26, s26, g27, s27, g28, s28, g29, s29, g30, s30, g31, s31, g32, s32, g33, s33, g34, s34, g35, s35, g36, s36, g37, s37, g38, s38, g39, s39, fits_n n1 n2, rngK_ivl]
    rw [s, ooK_some]
    show ooK (lcP (aNm s9) (pT (p2 (oInK (fun b => !b)) g9 g7)) g9 (q7 n A F S (c + 1) x5 (some (tZ d)) (some (tZ tk)) x8 none x10 x11 x12) ((ivl 0 n.toNat).map D.int) 0) _ = _
    rw [e3]
    rfl
  unfold dd7
  rw [sq_nx (asP_ok (st2 := q7 n A F S (c + 1) (some (.lst ((free n tk).map D.int))) (some (tZ d)) (some (tZ tk)) x8 x9 x10 x11 x12) e4 rfl)]
  cases e : free n tk with
  | nil =>
    refine ⟨some (.lst []), x8, x10, x11, (sq_nx (st' := q7 n A (F ++ [sortR gtI d]) S (c + 1) (some (.lst [])) (some (tZ d)) (some (tZ tk)) x8 x9 x10 x11 x12) ?_).trans rfl⟩
    rw [ifP_t (pT_of (p2_of (d := .lst ([].map D.int)) (e := .lst []) rfl rfl (nilL id _ rfl)))]
    refine (sq_nx (app_ok (x := tZ (sortR gtI d)) (xs := F.map tupZ) rfl (p1_of (p1_of rfl sortd) rfl) rfl (by rw [List.length_map]; omega))).trans ?_
    show R.ok (Fl.nx [some (.int n), some (tZ A), some (.lst (F.map tupZ ++ [tZ (sortR gtI d)])), some (.lst (S.map ndD)), some (.int (c + 1)), some (.lst []), some (tZ d), some (tZ tk), x8, x9, x10, x11, x12]) = R.ok (Fl.nx [some (.int n), some (tZ A), some (.lst ((F ++ [sortR gtI d]).map tupZ)), some (.lst (S.map ndD)), some (.int (c + 1)), some (.lst []), some (tZ d), some (tZ tk), x8, x9, x10, x11, x12])
    rw [List.map_append]
    rfl
  | cons f r =>
    obtain ⟨y8, y10, y11, el⟩ := ll7 (F := F) (c := c + 1) (f := f) (r := r) (d := d) (tk := tk) (x9 := x9) (x12 := x12) n1 (show A.length ≤ 900 by omega) (by omega) (by omega) A S x8 x10 x11 (by omega)
    refine ⟨some (.lst ((f :: r).map D.int)), y8, y10, y11, (sq_nx (st' := q7 n A F (S ++ nxt n A f d tk) (c + 1) (some (.lst ((f :: r).map D.int))) (some (tZ d)) (some (tZ tk)) y8 x9 y10 y11 x12) ?_).trans rfl⟩
    rw [ifP_f (pT_of (p2_of (d := .lst ((f :: r).map D.int)) (e := .lst []) rfl rfl (nilL id _ (dok_l (dok_ints (f :: r))))))]
    refine (sq_nx (st' := q7 n A F (S ++ nxt n A f d tk) (c + 1) (some (.lst ((f :: r).map D.int))) (some (tZ d)) (some (tZ tk)) y8 x9 y10 y11 x12) ?_).trans rfl
    exact el
theorem ww7 {n : Int} {A : List Int} (L : Lot n A) (hq : n.toNat / A.length * A.length = n.toNat) : ∀ (N : Nat) (F : List (List Int)) (S : List (List Int × List Int)) (c : Int) (x5 x6 x7 x8 x9 x10 x11 x12 : Option D), (∀ x ∈ S, Nd n A x) → wt2 n A S < N → F.length + wt2 n A S ≤ 9000 → c + wt2 n A S ≤ 9000 → ∃ c' y5 y6 y7 y8 y10 y11, whK tt7 bb7 N (q7 n A F S c x5 x6 x7 x8 x9 x10 x11 x12) = .ok (.nx (q7 n A (F ++ res2 n A S) [] c' y5 y6 y7 y8 x9 y10 y11 x12))
  | 0, F, S, c, x5, x6, x7, x8, x9, x10, x11, x12, _, h, _, _ => by omega
  | N + 1, F, S, c, x5, x6, x7, x8, x9, x10, x11, x12, hL, h1, h2, h3 => by
    have dk : dok 60 (.lst (S.map ndD)) = true := dok_l (dok_m dok_nd S)
    have t : tt7 (q7 n A F S c x5 x6 x7 x8 x9 x10 x11 x12) = .ok (!S.isEmpty, q7 n A F S c x5 x6 x7 x8 x9 x10 x11 x12) := by
      unfold tt7 liT pT
      rw [p2_of (d := .lst (S.map ndD)) (e := .lst []) rfl rfl (nilL (fun b => !b) _ dk)]
      cases S <;> rfl
    rw [wh_succ, t, bk_ok]
    by_cases e : S = []
    · subst e
      exact ⟨c, x5, x6, x7, x8, x10, x11, by rw [show res2 n A [] = [] from rfl, List.append_nil]; rfl⟩
    · obtain ⟨T, ⟨d, tk⟩, rfl⟩ := snoc S e
      have X := hL (d, tk) (by simp)
      have wl := wt2_len n A (T ++ [(d, tk)])
      have wa := wt2_app n A T [(d, tk)]
      have w1 := wt2_one n A (d, tk)
      have wp := w2_pos n A (d, tk)
      rw [List.length_append] at wl
      have wl : T.length + 1 ≤ wt2 n A (T ++ [(d, tk)]) := wl
      rw [show (!(T ++ [(d, tk)]).isEmpty) = true from by cases T <;> rfl, bK_t]
      dsimp only
      obtain ⟨y5, y8, y10, y11, eb⟩ := bb7_ok L (F := F) (S := T) (c := c) X (x5 := x5) (x6 := x6) (x7 := x7) (x8 := x8) (x9 := x9) (x10 := x10) (x11 := x11) (x12 := x12) (by omega) (by omega) (by omega)
      rw [eb, bk_ok, fl_nx, res2_app]
      cases e2 : free n tk with
      | nil =>
        obtain ⟨c', z5, z6, z7, z8, z10, z11, ih⟩ := ww7 L hq N (F ++ [sortR gtI d]) T (c + 1) y5 (some (tZ d)) (some (tZ tk)) y8 x9 y10 y11 x12 (fun x hx => hL x (by simp [hx])) (by omega) (by rw [List.length_append]; show F.length + 1 + _ ≤ 9000; omega) (by omega)
        exact ⟨c', z5, z6, z7, z8, z10, z11, by rw [res2_leaf e2]; exact ih.trans (by rw [List.append_assoc])⟩
      | cons f r =>
        have hf : f ∈ free n tk := by rw [e2]; exact List.mem_cons_self
        have wk := wt2_nxt L hq X hf
        have wb := wt2_app n A T (nxt n A f d tk)
        obtain ⟨c', z5, z6, z7, z8, z10, z11, ih⟩ := ww7 L hq N F (T ++ nxt n A f d tk) (c + 1) y5 (some (tZ d)) (some (tZ tk)) y8 x9 y10 y11 x12 (fun x hx => by
          rcases List.mem_append.mp hx with q | q
          · exact hL x (by simp [q])
          · exact (nxt_nd L X hf q).1) (by omega) (by omega) (by omega)
        exact ⟨c', z5, z6, z7, z8, z10, z11, by rw [res2_node L X e2, ← res2_app]; exact ih⟩
end EV
set_option maxHeartbeats 0
namespace EV
open PySem PySem.Spec PyProof.Rows L2 RZ
theorem gtL_cd : ∀ {x y : List Int}, x.length = y.length → TS.Bd 1000 x → TS.Bd 1000 y → gtL x y = true → cd y < cd x
  | [], _, _, _, _, h => by cases h
  | _ :: _, [], h, _, _, _ => by cases h
  | a :: r, b :: q, hl, h1, h2, h => by
    have hl' : r.length = q.length := by simpa using hl
    have h : (match decide (b = a) with | true => gtL r q | false => decide (b < a)) = true := h
    by_cases e : b = a
    · rw [decide_eq_true e] at h
      have := gtL_cd hl' h1.tail h2.tail h
      subst e
      show b * 1000 ^ q.length + TS.code 1000 q < b * 1000 ^ r.length + TS.code 1000 r
      rw [hl']
      exact Int.add_lt_add_left this _
    · rw [decide_eq_false e] at h
      have h : decide (b < a) = true := h
      rw [decide_eq_true_eq] at h
      exact TS.code_lt hl'.symm h2.tail h1.tail h
theorem dsort_eq {w : Nat} {ks : List (List Int)} (hn : ks.Nodup) (hb : ks.all (bdB w) = true) : dsort ks = sortR gtL ks := by
  have bd : ∀ x ∈ ks, x.length = w ∧ TS.Bd 1000 x := fun x hx => bdB_ok (List.all_eq_true.mp hb x hx)
  have p : (dsort ks).Perm ks := by
    refine (List.perm_ext_iff_of_nodup dsort_nodup hn).mpr fun x => ⟨dsort_mem, fun hx => ?_⟩
    obtain ⟨y, hy, e⟩ := dsort_cov hx
    have by_ := bd y (dsort_mem hy)
    have bx := bd x hx
    rw [← cd_inj (by_.1.trans bx.1.symm) by_.2 bx.2 e]
    exact hy
  rw [← sortR_perm_eq ordL p]
  refine (sortR_id ?_).symm
  have : ∀ l : List (List Int), (∀ x ∈ l, x.length = w ∧ TS.Bd 1000 x) → l.Pairwise (fun a b => cd a < cd b) → upTo gtL l := by
    intro l
    induction l with
    | nil => intro _ _; trivial
    | cons x r ih =>
      intro h hp
      have h1 := List.pairwise_cons.mp hp
      refine ⟨fun y hy => ?_, ih (fun z hz => h z (by simp [hz])) h1.2⟩
      cases r with
      | nil => cases hy
      | cons z r =>
        cases hy
        cases e : gtL x y with
        | false => rfl
        | true =>
          have bx := h x (by simp)
          have bz := h y (by simp)
          have a := gtL_cd (bx.1.trans bz.1.symm) bx.2 bz.2 e
          have b := h1.1 y (by simp)
          omega
  exact this _ (fun x hx => bd x (dsort_mem hx)) dsort_sorted
abbrev root (n : Int) (A : List Int) : List Int × List Int := ([0], sortR gtI (A.map fun a => a.fmod n))
theorem root_nd {n : Int} {A : List Int} (L : Lot n A) : Nd n A (root n A) where
  rg s hs := by
    cases List.mem_singleton.mp hs
    have := L.n1
    omega
  ne := by simp
  tk := by
    refine (sortR_perm _).trans ?_
    have e : (idx n A [0]).map (fun h : Nat => (h : Int)) = A.map fun a => a.fmod n := by
      unfold idx
      rw [List.map_flatMap]
      have hn := L.n1
      generalize A = B
      induction B with
      | nil => rfl
      | cons a B ih =>
        rw [List.flatMap_cons, ih, List.map_cons, List.map_cons, List.map_nil, List.map_nil, List.map_cons]
        unfold at_
        rw [Int.add_zero, Int.toNat_of_nonneg (Int.fmod_nonneg_of_pos _ (by omega))]
        rfl
    rw [e]
  nd := by
    have e : idx n A [0] = A.map fun a => at_ n a 0 := by
      unfold idx
      generalize A = B
      induction B with
      | nil => rfl
      | cons a B ih => rw [List.flatMap_cons, ih]; rfl
    rw [e]
    refine List.pairwise_map.mpr (L.nodup.imp_of_mem fun {a b} ha hb ne e => ne ?_)
    rw [at_comm n a 0, at_comm n b 0] at e
    exact at_inj L.n1 (L.rg a ha) (L.rg b hb) e
theorem res2_mem {n : Int} {A : List Int} (L : Lot n A) (B : List Int) : B ∈ res2 n A [root n A] ↔ (∃ C, B = [0] ++ C) ∧ Lot n B ∧ fillsB n A B = true := by
  show B ∈ srch2 n A (fr n (root n A) + 1) (root n A) ++ [] ↔ _
  rw [List.append_nil]
  refine (srch2_mem L _ _ _ (root_nd L) (Nat.lt_succ_self _) B).trans ?_
  constructor
  · rintro ⟨LB, fB, h⟩
    refine ⟨?_, LB, fB⟩
    have h0 := h 0 (by simp)
    cases B with
    | nil => cases h0
    | cons b C =>
      refine ⟨C, ?_⟩
      rcases List.mem_cons.mp h0 with q | q
      · rw [← q]; rfl
      · have := (List.pairwise_cons.mp LB.up).1 0 q
        have := (LB.rg b (by simp)).1
        omega
  · rintro ⟨⟨C, rfl⟩, LB, fB⟩
    refine ⟨LB, fB, fun s hs => ?_⟩
    cases List.mem_singleton.mp hs
    simp
theorem res2_nodup {n : Int} {A : List Int} (L : Lot n A) : (res2 n A [root n A]).Nodup := by
  show (srch2 n A (fr n (root n A) + 1) (root n A) ++ []).Nodup
  rw [List.append_nil]
  exact srch2_nodup L _ _ _ (root_nd L) (Nat.lt_succ_self _)
theorem due_eq {n : Int} {A : List Int} (L : Lot n A) : sortR gtL (res2 n A [root n A]) = due n A := by
  unfold due
  exact sortR_perm_eq ordL ((List.perm_ext_iff_of_nodup (res2_nodup L) (res_nodup L)).mpr fun B => by rw [res2_mem L, res_mem L])
theorem due_nil {n : Int} {A : List Int} (L : Lot n A) (h : n.toNat % A.length ≠ 0) : due n A = [] := by
  refine List.eq_nil_iff_forall_not_mem.mpr fun B hB => h ?_
  have := fills_len L.n1 ((due_mem L B).mp hB).2.2
  rw [← this]
  exact Nat.mul_mod_right _ _
theorem sset7 {n : Int} {A : List Int} (L : Lot n A) (hq : n.toNat / A.length * A.length = n.toNat) : oSSet2 (.lst ((res2 n A [root n A]).map tupZ)) = some (.lst ((due n A).map tupZ)) := by
  have a1 : 1 ≤ A.length := List.length_pos_iff.mpr L.ne
  have n1 := L.n1
  have n2 := L.n2
  have hA := len12 L
  have w : ∀ B ∈ res2 n A [root n A], B.length = n.toNat / A.length ∧ bdB (n.toNat / A.length) B = true := by
    intro B hB
    obtain ⟨_, LB, fB⟩ := (res2_mem L B).mp hB
    have e : B.length = n.toNat / A.length := by
      have := fills_len n1 fB
      rw [← hq, Nat.mul_comm] at this
      exact Nat.eq_of_mul_eq_mul_right a1 this
    refine ⟨e, ?_⟩
    unfold bdB
    rw [Bool.and_eq_true, List.all_eq_true]
    refine ⟨by rw [e]; exact Nat.beq_refl _, fun x hx => ?_⟩
    have := LB.rg x hx
    rw [Bool.and_eq_true, decide_eq_true_eq, decide_eq_true_eq]
    omega
  have len : (res2 n A [root n A]).length ≤ 32 := by
    show (srch2 n A (fr n (root n A) + 1) (root n A) ++ []).length ≤ 32
    rw [List.append_nil]
    refine Nat.le_trans (srch2_len L hq _ _ _ (root_nd L)) ?_
    have := (few A.length hA (n.toNat / A.length) (Nat.le_trans (Nat.div_le_self _ _) (by omega)) (by rw [Nat.mul_comm, hq]; omega)).1
    exact this
  have de := due_eq L
  have nd := res2_nodup L
  generalize res2 n A [root n A] = R at *
  cases R with
  | nil =>
    rw [← de]
    rfl
  | cons k r =>
    have hw : wid (k :: r) = n.toNat / A.length := (w k (by simp)).1
    have q1 : 1 ≤ n.toNat / A.length := (Nat.le_div_iff_mul_le a1).mpr (by
      have := Nat.div_mul_le_self n.toNat A.length
      rcases Nat.eq_zero_or_pos (n.toNat / A.length) with z | z
      · rw [z] at hq; omega
      · have := Nat.mul_le_mul_right A.length z; omega)
    have ab : (k :: r).all (bdB (n.toNat / A.length)) = true := List.all_eq_true.mpr fun B hB => (w B hB).2
    rw [oSSet_tups (by simp) (by omega) (by rw [hw]; exact q1) (by rw [hw]; exact ab), dsort_eq nd ab, de]
theorem nn7_eq : nn7 = sSqK (sDrpK (mCallP F4 (pCons g0 (pCons g1 pNil)))) (sSqK (sIfP (pT (p2 (oEqFK (fun b => !b)) (p2 oModK (p1 oInt g0) (p1 oLenK g1)) (pK (.int 0)))) (sSqK (sRetP (pLst pNil)) sSkip) sSkip) (sSqK (sPar3K s2 s3 s4 (liE (pLst pNil)) (liE (pLst (pCons (pTup (pCons (pTup (pCons (pK (.int 0)) pNil)) (pCons (p1 oTuple (p1 oSortK (pLc (pSeq g1) (aNm s8) (fun st => s8 none (id st)) pYes (p2 oModK (p1 oInt g8) g0)))) pNil))) pNil))) (liE (pK (.int 0)))) (sSqK (whK tt7 bb7 5000) (sSqK (sRetP (p1 oSSet2 g2)) sSkip)))) := rfl
theorem t7 {n : Int} {A : List Int} (L : Lot n A) : F7 [.int n, tZ A] = .ok (.lst ((due n A).map tupZ)) := by
  have n1 := L.n1
  have n2 := L.n2
  have a1 : 1 ≤ A.length := List.length_pos_iff.mpr L.ne
  have hA := len12 L
  have i0 : initK [.int n, tZ A] 13 = [some (.int n), some (tZ A), none, none, none, none, none, none, none, none, none, none, none] := rfl
  have e1 : ∀ K : MS, sSqK (sDrpK (mCallP F4 (pCons g0 (pCons g1 pNil)))) K [some (.int n), some (tZ A), none, none, none, none, none, none, none, none, none, none, none] = K [some (.int n), some (tZ A), none, none, none, none, none, none, none, none, none, none, none] := fun K => sq_nx (drp_call (xs := [.int n, tZ A]) rfl (t4 L))
  have md : n.fmod (A.length : Nat) = ((n.toNat % A.length : Nat) : Int) := by
    rw [fm (by omega), Int.natCast_emod, Int.toNat_of_nonneg (by omega)]
  have tt : (pT (p2 (oEqFK (fun b => !b)) (p2 oModK (p1 oInt g0) (p1 oLenK g1)) (pK (.int 0)))) [some (.int n), some (tZ A), none, none, none, none, none, none, none, none, none, none, none] = some (!(decide (n.toNat % A.length = 0))) := by
    refine pT_of (p2_of (p2_of (p1_of rfl (int_i n)) (p1_of (d := tZ A) rfl (len_t _)) (mod_i (by rw [List.length_map]; omega))) rfl ?_)
    rw [eq_i, List.length_map, md]
    congr 3
    exact decide_eq_decide.mpr (by omega)
  have go : nn7 (initK [.int n, tZ A] 13) = .ok (.rt (.lst ((due n A).map tupZ))) := by
    rw [nn7_eq, i0, e1]
    by_cases e : n.toNat % A.length = 0
    · rw [decide_eq_true e] at tt
      have hq : n.toNat / A.length * A.length = n.toNat := Nat.div_mul_cancel (Nat.dvd_of_mod_eq_zero e)
      rw [sq_nx (ifP_f tt)]
      have l0 := pLc_of (A := aNm s8) (w := fun st => s8 none (id st)) (c := pYes) (e := (p2 oModK (p1 oInt g8) g0)) (st := [some (.int n), some (tZ A), none, none, none, none, none, none, none, none, none, none, none]) (s := pSeq g1) (g := D.int) (k := D.int) (t := fun a => a.fmod n) A rfl (fun a ha => ⟨[some (.int n), some (tZ A), none, none, none, none, none, none, some (.int a), none, none, none, none], rfl, rfl, by
        simp only [runK, sSqK, sIfK, sIfP, tOrK, tAndK, tNotK, tValK, liE, liT, liL, liI, liO, pNotT, pT, p1, p2, pK, pCons, pNil, pYes, pSeq, pAndE, pOrE, pNotE, pAndT, pOrT, pChain, pIf, pTup, pLst, pLc, pDic, pR1, pR2, sRetP, sRetK, sAsP, sAsK, sAoP, sAoK, sDrpK, sPar2K, sPar3K, sForP, sForK, sAppC, mAndK, mOrK, mNotK, mIfK, lConsK, mTupK, mLstK, mMK, m1K, m2K, mLcK, mCallP, mCallK, in_nil, in_cons, re_zero, re_succ, bk_ok, bk_dr, opK_some, opK_none, ooK_some, ooK_none, bK_t, bK_f, hd_cons, tl_cons, s0_cons, st_cons, fl_nx, fl_rt, fl_bk, fl_ct, rt_rt, rt_nx, dB_bl, dI_int, sq_tup, sq_lst, at_tup, al_nil, al_cons, nm_set, isi_tup_t, nh_int, nh_tup, nh_lst, nh_bl, nh_all_nil, nh_all_cons, ln_nil, ln_cons, lc_nil, lc_cons, lk_nil, lk_cons, fo_nil, fo_cons, all_l, any_l, allB_nil, anyB_nil, allB_cons, anyB_cons, ix_t0, ix_l0, ix_l1, ix_t1, ix_t2, ix_t3, pSl, pNo, pPart, pEnum, skip_nx, seq_k, fclk_eq, fck_eq, len_t, len_l, eq_i, ge_i, le_i, lt_i, gt_i, add_i, sub_i, int_i, chl, chle, id_eq, ble_ok, Nat.reduceAdd, List.length_cons, List.length_nil, decide_true, decide_false, Bool.not_true, Bool.not_false, Nat.zero_add, Nat.reduceLeDiff, Int.cast_ofNat_Int, g0, s0, g1, s1, g2, s2, g3, s3, g4, s4, g5, s5, g6, s6, g7, s7, g8, s8, g9, s9, g10, s10, g11, s11, g12, s12, g13, s13, g14, s14, g15, s15, g16, s16, g17, s17, g18, s18, g19, s19, g20, s20, g21, s21, g22, s22, g23, s23, g24, s24, g25, s25, g26, s26, g27, s27, g28, s28, g29, s29, g30, s30, g31, s31, g32, s32, g33, s33, g34, s34, g35, s35, g36, s36, g37, s37, g38, s38, g39, s39, mod_i (show n ≠ 0 by omega)], rfl⟩) (by omega)
      have l1 : (p1 oTuple (p1 oSortK (pLc (pSeq g1) (aNm s8) (fun st => s8 none (id st)) pYes (p2 oModK (p1 oInt g8) g0)))) [some (.int n), some (tZ A), none, none, none, none, none, none, none, none, none, none, none] = some (tZ (sortR gtI (A.map fun a => a.fmod n))) := p1_of (p1_of l0 ((sr_l _).trans (sortI_ok _))) rfl
      have l2 : (pTup (pCons (pTup (pCons (pK (.int 0)) pNil)) (pCons (p1 oTuple (p1 oSortK (pLc (pSeq g1) (aNm s8) (fun st => s8 none (id st)) pYes (p2 oModK (p1 oInt g8) g0)))) pNil))) [some (.int n), some (tZ A), none, none, none, none, none, none, none, none, none, none, none] = some (ndD (root n A)) := tup2_ok (x := tZ [0]) rfl l1 rfl rfl
      have l3 : (pLst (pCons (pTup (pCons (pTup (pCons (pK (.int 0)) pNil)) (pCons (p1 oTuple (p1 oSortK (pLc (pSeq g1) (aNm s8) (fun st => s8 none (id st)) pYes (p2 oModK (p1 oInt g8) g0)))) pNil))) pNil)) [some (.int n), some (tZ A), none, none, none, none, none, none, none, none, none, none, none] = some (.lst ([root n A].map ndD)) := by
        generalize (pTup (pCons (pTup (pCons (pK (.int 0)) pNil)) (pCons (p1 oTuple (p1 oSortK (pLc (pSeq g1) (aNm s8) (fun st => s8 none (id st)) pYes (p2 oModK (p1 oInt g8) g0)))) pNil))) = X at *
        simp only [runK, sSqK, sIfK, sIfP, tOrK, tAndK, tNotK, tValK, liE, liT, liL, liI, liO, pNotT, pT, p1, p2, pK, pCons, pNil, pYes, pSeq, pAndE, pOrE, pNotE, pAndT, pOrT, pChain, pIf, pTup, pLst, pLc, pDic, pR1, pR2, sRetP, sRetK, sAsP, sAsK, sAoP, sAoK, sDrpK, sPar2K, sPar3K, sForP, sForK, sAppC, mAndK, mOrK, mNotK, mIfK, lConsK, mTupK, mLstK, mMK, m1K, m2K, mLcK, mCallP, mCallK, in_nil, in_cons, re_zero, re_succ, bk_ok, bk_dr, opK_some, opK_none, ooK_some, ooK_none, bK_t, bK_f, hd_cons, tl_cons, s0_cons, st_cons, fl_nx, fl_rt, fl_bk, fl_ct, rt_rt, rt_nx, dB_bl, dI_int, sq_tup, sq_lst, at_tup, al_nil, al_cons, nm_set, isi_tup_t, nh_int, nh_tup, nh_lst, nh_bl, nh_all_nil, nh_all_cons, ln_nil, ln_cons, lc_nil, lc_cons, lk_nil, lk_cons, fo_nil, fo_cons, all_l, any_l, allB_nil, anyB_nil, allB_cons, anyB_cons, ix_t0, ix_l0, ix_l1, ix_t1, ix_t2, ix_t3, pSl, pNo, pPart, pEnum, skip_nx, seq_k, fclk_eq, fck_eq, len_t, len_l, eq_i, ge_i, le_i, lt_i, gt_i, add_i, sub_i, int_i, chl, chle, id_eq, ble_ok, Nat.reduceAdd, List.length_cons, List.length_nil, decide_true, decide_false, Bool.not_true, Bool.not_false, Nat.zero_add, Nat.reduceLeDiff, Int.cast_ofNat_Int, g0, s0, g1, s1, g2, s2, g3, s3, g4, s4, g5, s5, g6, s6, g7, s7, g8, s8, g9, s9, g10, s10, g11, s11, g12, s12, g13, s13, g14, s14, g15, s15, g16, s16, g17, s17, g18, s18, g19, s19, g20, s20, g21, s21, g22, s22, g23, s23, g24, s24, g25, s25, g26, s26, g27, s27, g28, s28, g29, s29, g30, s30, g31, s31, g32, s32, g33, s33, g34, s34, g35, s35, g36, s36, g37, s37, g38, s38, g39, s39, l2, List.map_cons, List.map_nil]
      have pr : sPar3K s2 s3 s4 (liE (pLst pNil)) (liE (pLst (pCons (pTup (pCons (pTup (pCons (pK (.int 0)) pNil)) (pCons (p1 oTuple (p1 oSortK (pLc (pSeq g1) (aNm s8) (fun st => s8 none (id st)) pYes (p2 oModK (p1 oInt g8) g0)))) pNil))) pNil))) (liE (pK (.int 0))) [some (.int n), some (tZ A), none, none, none, none, none, none, none, none, none, none, none] = .ok (.nx (q7 n A [] [root n A] 0 none none none none none none none none)) := by
        generalize (pLst (pCons (pTup (pCons (pTup (pCons (pK (.int 0)) pNil)) (pCons (p1 oTuple (p1 oSortK (pLc (pSeq g1) (aNm s8) (fun st => s8 none (id st)) pYes (p2 oModK (p1 oInt g8) g0)))) pNil))) pNil)) = X at *
        simp only [runK, sSqK, sIfK, sIfP, tOrK, tAndK, tNotK, tValK, liE, liT, liL, liI, liO, pNotT, pT, p1, p2, pK, pCons, pNil, pYes, pSeq, pAndE, pOrE, pNotE, pAndT, pOrT, pChain, pIf, pTup, pLst, pLc, pDic, pR1, pR2, sRetP, sRetK, sAsP, sAsK, sAoP, sAoK, sDrpK, sPar2K, sPar3K, sForP, sForK, sAppC, mAndK, mOrK, mNotK, mIfK, lConsK, mTupK, mLstK, mMK, m1K, m2K, mLcK, mCallP, mCallK, in_nil, in_cons, re_zero, re_succ, bk_ok, bk_dr, opK_some, opK_none, ooK_some, ooK_none, bK_t, bK_f, hd_cons, tl_cons, s0_cons, st_cons, fl_nx, fl_rt, fl_bk, fl_ct, rt_rt, rt_nx, dB_bl, dI_int, sq_tup, sq_lst, at_tup, al_nil, al_cons, nm_set, isi_tup_t, nh_int, nh_tup, nh_lst, nh_bl, nh_all_nil, nh_all_cons, ln_nil, ln_cons, lc_nil, lc_cons, lk_nil, lk_cons, fo_nil, fo_cons, all_l, any_l, allB_nil, anyB_nil, allB_cons, anyB_cons, ix_t0, ix_l0, ix_l1, ix_t1, ix_t2, ix_t3, pSl, pNo, pPart, pEnum, skip_nx, seq_k, fclk_eq, fck_eq, len_t, len_l, eq_i, ge_i, le_i, lt_i, gt_i, add_i, sub_i, int_i, chl, chle, id_eq, ble_ok, Nat.reduceAdd, List.length_cons, List.length_nil, decide_true, decide_false, Bool.not_true, Bool.not_false, Nat.zero_add, Nat.reduceLeDiff, Int.cast_ofNat_Int, g0, s0, g1, s1, g2, s2, g3, s3, g4, s4, g5, s5, g6, s6, g7, s7, g8, s8, g9, s9, g10, s10, g11, s11, g12, s12, g13, s13, g14, s14, g15, s15, g16, s16, g17, s17, g18, s18, g19, s19, g20, s20, g21, s21, g22, s22, g23, s23, g24, s24, g25, s25, g26, s26, g27, s27, g28, s28, g29, s29, g30, s30, g31, s31, g32, s32, g33, s33, g34, s34, g35, s35, g36, s36, g37, s37, g38, s38, g39, s39, l3]
        rfl
      rw [sq_nx pr]
      have wb : wt2 n A [root n A] ≤ 2048 := by
        rw [wt2_one]
        exact (few A.length hA (n.toNat / A.length) (Nat.le_trans (Nat.div_le_self _ _) (by omega)) (by rw [Nat.mul_comm, hq]; omega)).2
      obtain ⟨c', y5, y6, y7, y8, y10, y11, ew⟩ := ww7 L hq 5000 [] [root n A] 0 none none none none none none none none (fun x hx => by cases List.mem_singleton.mp hx; exact root_nd L) (by omega) (by rw [List.length_nil]; omega) (by omega)
      rw [sq_nx ew, List.nil_append]
      unfold sSqK sRetP
      rw [p1_of (d := .lst ((res2 n A [root n A]).map tupZ)) rfl (sset7 L hq), opK_some, bk_ok]
      rfl
    · rw [decide_eq_false e] at tt
      rw [due_nil L e]
      show bindK (sIfP _ _ _ _) _ = _
      rw [ifP_t tt]
      rfl
  unfold F7 runK
  rw [go, bk_ok]
  rfl
end EV
set_option maxHeartbeats 0
namespace EV
open PySem PySem.Spec PyProof.Rows L2 RZ
/-! draws -/
theorem dr10 {k : Int} (h : 0 < k) (h2 : k < 1073741824) : F10 [.hnd, .int k] = .dr k.toNat fun d => .ok (.int (d : Nat)) := by
  show (match decide (0 < k) && decide (k < 1073741824) with | true => R.dr k.toNat (fun d => R.ok (D.int (d : Nat))) | false => .bad) = _
  rw [decide_eq_true h, decide_eq_true h2]
  rfl
theorem ix_any (xs : List D) (d : Nat) (h : d < xs.length) : ∃ x, x ∈ xs ∧ oIxK (.lst xs) (.int (d : Nat)) = some x := by
  refine ⟨xs[d], List.getElem_mem h, ?_⟩
  show nthK xs d = _
  rw [nthK_eq, List.getElem?_eq_getElem h]
theorem some_all (xs : List D) (h0 : 0 < xs.length) (h1 : xs.length < 1000) : (F11 [.hnd, .lst xs]).all fun d => d ∈ xs := by
  have e := dr10 (k := (xs.length : Nat)) (by omega) (by omega)
  simp only [F11, nn11, runK, sSqK, sIfK, sIfP, tOrK, tAndK, tNotK, tValK, liE, liT, liL, liI, liO, pNotT, pT, p1, p2, pK, pCons, pNil, pYes, pSeq, pAndE, pOrE, pNotE, pAndT, pOrT, pChain, pIf, pTup, pLst, pLc, pDic, pR1, pR2, sRetP, sRetK, sAsP, sAsK, sAoP, sAoK, sDrpK, sPar2K, sPar3K, sForP, sForK, sAppC, mAndK, mOrK, mNotK, mIfK, lConsK, mTupK, mLstK, mMK, m1K, m2K, mLcK, mCallP, mCallK, in_nil, in_cons, re_zero, re_succ, bk_ok, bk_dr, opK_some, opK_none, ooK_some, ooK_none, bK_t, bK_f, hd_cons, tl_cons, s0_cons, st_cons, fl_nx, fl_rt, fl_bk, fl_ct, rt_rt, rt_nx, dB_bl, dI_int, sq_tup, sq_lst, at_tup, al_nil, al_cons, nm_set, isi_tup_t, nh_int, nh_tup, nh_lst, nh_bl, nh_all_nil, nh_all_cons, ln_nil, ln_cons, lc_nil, lc_cons, lk_nil, lk_cons, fo_nil, fo_cons, all_l, any_l, allB_nil, anyB_nil, allB_cons, anyB_cons, ix_t0, ix_l0, ix_l1, ix_t1, ix_t2, ix_t3, pSl, pNo, pPart, pEnum, skip_nx, seq_k, fclk_eq, fck_eq, len_t, len_l, eq_i, ge_i, le_i, lt_i, gt_i, add_i, sub_i, int_i, chl, chle, id_eq, ble_ok, Nat.reduceAdd, List.length_cons, List.length_nil, decide_true, decide_false, Bool.not_true, Bool.not_false, Nat.zero_add, Nat.reduceLeDiff, Int.cast_ofNat_Int, g0, s0, g1, s1, g2, s2, g3, s3, g4, s4, g5, s5, g6, s6, g7, s7, g8, s8, g9, s9, g10, s10, g11, s11, g12, s12, g13, s13, g14, s14, g15, s15, g16, s16, g17, s17, g18, s18, g19, s19, g20, s20, g21, s21, g22, s22, g23, s23, g24, s24, g25, s25, g26, s26, g27, s27, g28, s28, g29, s29, g30, s30, g31, s31, g32, s32, g33, s33, g34, s34, g35, s35, g36, s36, g37, s37, g38, s38, g39, s39, e]
  intro d hd
  have hd : d < xs.length := by
    have : d < ((xs.length : Nat) : Int).toNat := hd
    omega
  obtain ⟨x, hx, e2⟩ := ix_any xs d hd
  simp only [runK, sSqK, sIfK, sIfP, tOrK, tAndK, tNotK, tValK, liE, liT, liL, liI, liO, pNotT, pT, p1, p2, pK, pCons, pNil, pYes, pSeq, pAndE, pOrE, pNotE, pAndT, pOrT, pChain, pIf, pTup, pLst, pLc, pDic, pR1, pR2, sRetP, sRetK, sAsP, sAsK, sAoP, sAoK, sDrpK, sPar2K, sPar3K, sForP, sForK, sAppC, mAndK, mOrK, mNotK, mIfK, lConsK, mTupK, mLstK, mMK, m1K, m2K, mLcK, mCallP, mCallK, in_nil, in_cons, re_zero, re_succ, bk_ok, bk_dr, opK_some, opK_none, ooK_some, ooK_none, bK_t, bK_f, hd_cons, tl_cons, s0_cons, st_cons, fl_nx, fl_rt, fl_bk, fl_ct, rt_rt, rt_nx, dB_bl, dI_int, sq_tup, sq_lst, at_tup, al_nil, al_cons, nm_set, isi_tup_t, nh_int, nh_tup, nh_lst, nh_bl, nh_all_nil, nh_all_cons, ln_nil, ln_cons, lc_nil, lc_cons, lk_nil, lk_cons, fo_nil, fo_cons, all_l, any_l, allB_nil, anyB_nil, allB_cons, anyB_cons, ix_t0, ix_l0, ix_l1, ix_t1, ix_t2, ix_t3, pSl, pNo, pPart, pEnum, skip_nx, seq_k, fclk_eq, fck_eq, len_t, len_l, eq_i, ge_i, le_i, lt_i, gt_i, add_i, sub_i, int_i, chl, chle, id_eq, ble_ok, Nat.reduceAdd, List.length_cons, List.length_nil, decide_true, decide_false, Bool.not_true, Bool.not_false, Nat.zero_add, Nat.reduceLeDiff, Int.cast_ofNat_Int, g0, s0, g1, s1, g2, s2, g3, s3, g4, s4, g5, s5, g6, s6, g7, s7, g8, s8, g9, s9, g10, s10, g11, s11, g12, s12, g13, s13, g14, s14, g15, s15, g16, s16, g17, s17, g18, s18, g19, s19, g20, s20, g21, s21, g22, s22, g23, s23, g24, s24, g25, s25, g26, s26, g27, s27, g28, s28, g29, s29, g30, s30, g31, s31, g32, s32, g33, s33, g34, s34, g35, s35, g36, s36, g37, s37, g38, s38, g39, s39, e2]
  exact hx
/-- no whole number, or 0 -/
def NI (d : D) : Prop := nHK d = true ∧ (d = .int 0 ∨ oIsi [.int] d = some (.bl false))
def DpQ (d : D) : Prop := NI d ∧ ((∃ x, d = .tup [x] ∧ NI x) ∨ oIsi [.tup] d = some (.bl false))
theorem deep_all : (F13 [.hnd]).all DpQ := by
  have s1' := some_all [.non, .int 0, .str "a"] (by decide) (by decide)
  unfold F13 runK
  refine all_bk ?_
  unfold nn13
  refine R.all_mono (p := fun fl => ∃ d, fl = .rt d ∧ DpQ d) ?_ (all_sq (asK_call (xs := [.hnd, .lst [.non, .int 0, .str "a"]]) (by rfl) s1' fun r hr => ?_))
  · rintro fl ⟨d, rfl, h⟩
    exact h
  · refine ⟨[some .hnd, some r, none], rfl, _, rfl, ?_⟩
    have hr : DpQ r := by
      simp only [List.mem_cons, List.not_mem_nil, or_false] at hr
      rcases hr with rfl | rfl | rfl
      · exact ⟨⟨rfl, .inr rfl⟩, .inr rfl⟩
      · exact ⟨⟨rfl, .inl rfl⟩, .inr rfl⟩
      · exact ⟨⟨rfl, .inr rfl⟩, .inr rfl⟩
    have src : (sR1 (m2K oAddK (liE (pK (.int 18))) (mCallP F10 (pCons g0 (pCons (pK (.int 18)) pNil)))) [some .hnd, some r, none]).all fun x => x.2 = [some .hnd, some r, none] := by
      rw [r1_k]
      refine all_bk (R.all_mono (p := fun p => ∃ i : Int, p.1 = .int i ∧ 0 ≤ i ∧ i < 1000 ∧ p.2 = [some .hnd, some r, none]) ?_ ?_)
      · rintro ⟨d, s⟩ ⟨i, rfl, h0, h1, e⟩
        simp only [dI_int, opK_some, fits_ok (show -1000 ≤ i by omega) (show i ≤ 1000 by omega), bK_t]
        exact e
      · simp only [runK, sSqK, sIfK, sIfP, tOrK, tAndK, tNotK, tValK, liE, liT, liL, liI, liO, pNotT, pT, p1, p2, pK, pCons, pNil, pYes, pSeq, pAndE, pOrE, pNotE, pAndT, pOrT, pChain, pIf, pTup, pLst, pLc, pDic, pR1, pR2, sRetP, sRetK, sAsP, sAsK, sAoP, sAoK, sDrpK, sPar2K, sPar3K, sForP, sForK, sAppC, mAndK, mOrK, mNotK, mIfK, lConsK, mTupK, mLstK, mMK, m1K, m2K, mLcK, mCallP, mCallK, in_nil, in_cons, re_zero, re_succ, bk_ok, bk_dr, opK_some, opK_none, ooK_some, ooK_none, bK_t, bK_f, hd_cons, tl_cons, s0_cons, st_cons, fl_nx, fl_rt, fl_bk, fl_ct, rt_rt, rt_nx, dB_bl, dI_int, sq_tup, sq_lst, at_tup, al_nil, al_cons, nm_set, isi_tup_t, nh_int, nh_tup, nh_lst, nh_bl, nh_all_nil, nh_all_cons, ln_nil, ln_cons, lc_nil, lc_cons, lk_nil, lk_cons, fo_nil, fo_cons, all_l, any_l, allB_nil, anyB_nil, allB_cons, anyB_cons, ix_t0, ix_l0, ix_l1, ix_t1, ix_t2, ix_t3, pSl, pNo, pPart, pEnum, skip_nx, seq_k, fclk_eq, fck_eq, len_t, len_l, eq_i, ge_i, le_i, lt_i, gt_i, add_i, sub_i, int_i, chl, chle, id_eq, ble_ok, Nat.reduceAdd, List.length_cons, List.length_nil, decide_true, decide_false, Bool.not_true, Bool.not_false, Nat.zero_add, Nat.reduceLeDiff, Int.cast_ofNat_Int, g0, s0, g1, s1, g2, s2, g3, s3, g4, s4, g5, s5, g6, s6, g7, s7, g8, s8, g9, s9, g10, s10, g11, s11, g12, s12, g13, s13, g14, s14, g15, s15, g16, s16, g17, s17, g18, s18, g19, s19, g20, s20, g21, s21, g22, s22, g23, s23, g24, s24, g25, s25, g26, s26, g27, s27, g28, s28, g29, s29, g30, s30, g31, s31, g32, s32, g33, s33, g34, s34, g35, s35, g36, s36, g37, s37, g38, s38, g39, s39, dr10 (show (0 : Int) < 18 by decide) (by decide)]
        intro d hd
        have hd : d < 18 := hd
        exact ⟨_, rfl, by omega, by omega, rfl⟩
    refine all_sq ?_
    unfold sForK
    refine all_bk (R.all_mono (fun x hx => ?_) src)
    rw [hx]
    refine R.all_mono ?_ (forK_all (I := fun st => ∃ r y, st = [some .hnd, some r, y] ∧ DpQ r) x.1 _ (fun d _ st hst => ?_) ⟨r, none, rfl, hr⟩)
    · rintro fl ⟨st2, rfl, r2, y, rfl, h2⟩
      refine ⟨_, rfl, ?_⟩
      simp only [runK, sSqK, sIfK, sIfP, tOrK, tAndK, tNotK, tValK, liE, liT, liL, liI, liO, pNotT, pT, p1, p2, pK, pCons, pNil, pYes, pSeq, pAndE, pOrE, pNotE, pAndT, pOrT, pChain, pIf, pTup, pLst, pLc, pDic, pR1, pR2, sRetP, sRetK, sAsP, sAsK, sAoP, sAoK, sDrpK, sPar2K, sPar3K, sForP, sForK, sAppC, mAndK, mOrK, mNotK, mIfK, lConsK, mTupK, mLstK, mMK, m1K, m2K, mLcK, mCallP, mCallK, in_nil, in_cons, re_zero, re_succ, bk_ok, bk_dr, opK_some, opK_none, ooK_some, ooK_none, bK_t, bK_f, hd_cons, tl_cons, s0_cons, st_cons, fl_nx, fl_rt, fl_bk, fl_ct, rt_rt, rt_nx, dB_bl, dI_int, sq_tup, sq_lst, at_tup, al_nil, al_cons, nm_set, isi_tup_t, nh_int, nh_tup, nh_lst, nh_bl, nh_all_nil, nh_all_cons, ln_nil, ln_cons, lc_nil, lc_cons, lk_nil, lk_cons, fo_nil, fo_cons, all_l, any_l, allB_nil, anyB_nil, allB_cons, anyB_cons, ix_t0, ix_l0, ix_l1, ix_t1, ix_t2, ix_t3, pSl, pNo, pPart, pEnum, skip_nx, seq_k, fclk_eq, fck_eq, len_t, len_l, eq_i, ge_i, le_i, lt_i, gt_i, add_i, sub_i, int_i, chl, chle, id_eq, ble_ok, Nat.reduceAdd, List.length_cons, List.length_nil, decide_true, decide_false, Bool.not_true, Bool.not_false, Nat.zero_add, Nat.reduceLeDiff, Int.cast_ofNat_Int, g0, s0, g1, s1, g2, s2, g3, s3, g4, s4, g5, s5, g6, s6, g7, s7, g8, s8, g9, s9, g10, s10, g11, s11, g12, s12, g13, s13, g14, s14, g15, s15, g16, s16, g17, s17, g18, s18, g19, s19, g20, s20, g21, s21, g22, s22, g23, s23, g24, s24, g25, s25, g26, s26, g27, s27, g28, s28, g29, s29, g30, s30, g31, s31, g32, s32, g33, s33, g34, s34, g35, s35, g36, s36, g37, s37, g38, s38, g39, s39]
      exact ⟨r2, rfl, h2⟩
    · obtain ⟨r2, y, rfl, h2⟩ := hst
      refine ⟨[some .hnd, some r2, some d], rfl, ?_⟩
      have s2' := some_all [.tup [r2], .lst [r2], .dic] (show 0 < 3 by decide) (show 3 < 1000 by decide)
      refine all_sq (asK_call (xs := [.hnd, .lst [.tup [r2], .lst [r2], .dic]]) ?_ s2' fun r3 h3 => ?_)
      · simp only [runK, sSqK, sIfK, sIfP, tOrK, tAndK, tNotK, tValK, liE, liT, liL, liI, liO, pNotT, pT, p1, p2, pK, pCons, pNil, pYes, pSeq, pAndE, pOrE, pNotE, pAndT, pOrT, pChain, pIf, pTup, pLst, pLc, pDic, pR1, pR2, sRetP, sRetK, sAsP, sAsK, sAoP, sAoK, sDrpK, sPar2K, sPar3K, sForP, sForK, sAppC, mAndK, mOrK, mNotK, mIfK, lConsK, mTupK, mLstK, mMK, m1K, m2K, mLcK, mCallP, mCallK, in_nil, in_cons, re_zero, re_succ, bk_ok, bk_dr, opK_some, opK_none, ooK_some, ooK_none, bK_t, bK_f, hd_cons, tl_cons, s0_cons, st_cons, fl_nx, fl_rt, fl_bk, fl_ct, rt_rt, rt_nx, dB_bl, dI_int, sq_tup, sq_lst, at_tup, al_nil, al_cons, nm_set, isi_tup_t, nh_int, nh_tup, nh_lst, nh_bl, nh_all_nil, nh_all_cons, ln_nil, ln_cons, lc_nil, lc_cons, lk_nil, lk_cons, fo_nil, fo_cons, all_l, any_l, allB_nil, anyB_nil, allB_cons, anyB_cons, ix_t0, ix_l0, ix_l1, ix_t1, ix_t2, ix_t3, pSl, pNo, pPart, pEnum, skip_nx, seq_k, fclk_eq, fck_eq, len_t, len_l, eq_i, ge_i, le_i, lt_i, gt_i, add_i, sub_i, int_i, chl, chle, id_eq, ble_ok, Nat.reduceAdd, List.length_cons, List.length_nil, decide_true, decide_false, Bool.not_true, Bool.not_false, Nat.zero_add, Nat.reduceLeDiff, Int.cast_ofNat_Int, g0, s0, g1, s1, g2, s2, g3, s3, g4, s4, g5, s5, g6, s6, g7, s7, g8, s8, g9, s9, g10, s10, g11, s11, g12, s12, g13, s13, g14, s14, g15, s15, g16, s16, g17, s17, g18, s18, g19, s19, g20, s20, g21, s21, g22, s22, g23, s23, g24, s24, g25, s25, g26, s26, g27, s27, g28, s28, g29, s29, g30, s30, g31, s31, g32, s32, g33, s33, g34, s34, g35, s35, g36, s36, g37, s37, g38, s38, g39, s39, h2.1.1, show nHK .dic = true from rfl]
      · refine ⟨[some .hnd, some r3, some d], rfl, _, rfl, ?_⟩
        rw [skip_nx]
        refine ⟨_, .inl rfl, r3, some d, rfl, ?_⟩
        simp only [List.mem_cons, List.not_mem_nil, or_false] at h3
        rcases h3 with rfl | rfl | rfl
        · exact ⟨⟨rfl, .inr rfl⟩, .inl ⟨r2, rfl, h2.1⟩⟩
        · exact ⟨⟨rfl, .inr rfl⟩, .inr rfl⟩
        · exact ⟨⟨rfl, .inr rfl⟩, .inr rfl⟩
/-! a drawn lot -/
theorem lcK_sub {A : AT} {st : AS} {c : MT} {e : ME} {g : Int → D} : ∀ (l : List Int) (n : Nat), (∀ d ∈ l, ∃ st1, A (g d) st = some st1 ∧ (c st1).all (fun _ => True) ∧ (∃ s3, e st1 = .ok (g d, s3)) ∧ nHK (g d) = true) → n + l.length ≤ 16000000 → (lcK A c e st (l.map g) n).all fun r => ∃ m : List Int, m.Sublist l ∧ r = m.map g
  | [], n, _, _ => ⟨[], .slnil, rfl⟩
  | d :: r, n, h, hn => by
    obtain ⟨st1, h1, h2, ⟨s3, h3⟩, h4⟩ := h d (by simp)
    rw [List.length_cons] at hn
    rw [List.map_cons, lk_cons, h1, opK_some]
    refine all_bk (R.all_mono (fun b _ => ?_) h2)
    cases b.1 with
    | true =>
      rw [bK_t, h3, bk_ok, h4, bK_t, ble_ok (by omega), bK_t]
      refine all_bk (R.all_mono (fun q hq => ?_) (lcK_sub r (n + 1) (fun d hd => h d (by simp [hd])) (by omega)))
      obtain ⟨m, hm, rfl⟩ := hq
      exact ⟨d :: m, hm.cons_cons d, rfl⟩
    | false =>
      rw [bK_f]
      refine R.all_mono (fun q hq => ?_) (lcK_sub r n (fun d hd => h d (by simp [hd])) (by omega))
      obtain ⟨m, hm, rfl⟩ := hq
      exact ⟨m, hm.cons d, rfl⟩
theorem ivl_up : ∀ (m : Nat) (lo : Int), (ivl lo m).Pairwise (· < ·)
  | 0, _ => List.Pairwise.nil
  | m + 1, lo => List.pairwise_cons.mpr ⟨fun x hx => by have := ivl_get hx; omega, ivl_up m (lo + 1)⟩
theorem lot_of {n : Int} {m : List Int} (h1 : 1 ≤ n) (h2 : n ≤ 12) (hm : m.Sublist (ivl 1 (n - 1).toNat)) : Lot n (0 :: m) where
  n1 := h1
  n2 := h2
  ne := by simp
  rg a ha := by
    rcases List.mem_cons.mp ha with rfl | q
    · omega
    · have := ivl_get (hm.mem q)
      omega
  up := List.pairwise_cons.mpr ⟨fun a ha => by have := ivl_get (hm.mem ha); omega, (ivl_up _ _).sublist hm⟩
theorem cat_l (xs ys : List D) (h : xs.length + ys.length ≤ 1000) : oCatL (.lst xs) (.lst ys) = some (.lst (xs ++ ys)) := by
  unfold oCatL
  simp only [show lenOk (xs.length + ys.length) = true from Nat.ble_eq_true_of_le (by omega)]
theorem t14 {n : Int} (h1 : 1 ≤ n) (h2 : n ≤ 12) : (F14 [.hnd, .int n]).all fun d => ∃ A, d = tZ A ∧ Lot n A ∧ ∃ C, A = 0 :: C := by
  have src : pR2 (pK (.int 1)) g1 [some .hnd, some (.int n), none] = some ((ivl 1 (n - 1).toNat).map D.int) := by
    simp only [runK, sSqK, sIfK, sIfP, tOrK, tAndK, tNotK, tValK, liE, liT, liL, liI, liO, pNotT, pT, p1, p2, pK, pCons, pNil, pYes, pSeq, pAndE, pOrE, pNotE, pAndT, pOrT, pChain, pIf, pTup, pLst, pLc, pDic, pR1, pR2, sRetP, sRetK, sAsP, sAsK, sAoP, sAoK, sDrpK, sPar2K, sPar3K, sForP, sForK, sAppC, mAndK, mOrK, mNotK, mIfK, lConsK, mTupK, mLstK, mMK, m1K, m2K, mLcK, mCallP, mCallK, in_nil, in_cons, re_zero, re_succ, bk_ok, bk_dr, opK_some, opK_none, ooK_some, ooK_none, bK_t, bK_f, hd_cons, tl_cons, s0_cons, st_cons, fl_nx, fl_rt, fl_bk, fl_ct, rt_rt, rt_nx, dB_bl, dI_int, sq_tup, sq_lst, at_tup, al_nil, al_cons, nm_set, isi_tup_t, nh_int, nh_tup, nh_lst, nh_bl, nh_all_nil, nh_all_cons, ln_nil, ln_cons, lc_nil, lc_cons, lk_nil, lk_cons, fo_nil, fo_cons, all_l, any_l, allB_nil, anyB_nil, allB_cons, anyB_cons, ix_t0, ix_l0, ix_l1, ix_t1, ix_t2, ix_t3, pSl, pNo, pPart, pEnum, skip_nx, seq_k, fclk_eq, fck_eq, len_t, len_l, eq_i, ge_i, le_i, lt_i, gt_i, add_i, sub_i, int_i, chl, chle, id_eq, ble_ok, Nat.reduceAdd, List.length_cons, List.length_nil, decide_true, decide_false, Bool.not_true, Bool.not_false, Nat.zero_add, Nat.reduceLeDiff, Int.cast_ofNat_Int, g0, s0, g1, s1, g2, s2, g3, s3, g4, s4, g5, s5, g6, s6, g7, s7, g8, s8, g9, s9, g10, s10, g11, s11, g12, s12, g13, s13, g14, s14, g15, s15, g16, s16, g17, s17, g18, s18, g19, s19, g20, s20, g21, s21, g22, s22, g23, s23, g24, s24, g25, s25, g26, s26, g27, s27, g28, s28, g29, s29, g30, s30, g31, s31, g32, s32, g33, s33, g34, s34, g35, s35, g36, s36, g37, s37, g38, s38, g39, s39, fits_n h1 h2, show fits62 1 = true from rfl, rngK_ivl]
  have lc := lcK_sub (A := aNm s2) (st := [some .hnd, some (.int n), none]) (c := (tValK (m2K (oEqFK id) (mCallP F10 (pCons g0 (pCons (pK (.int 3)) pNil))) (liE (pK (.int 0)))))) (e := liE g2) (g := D.int) (ivl 1 (n - 1).toNat) 0 (fun d hd => ⟨[some .hnd, some (.int n), some (.int d)], rfl, by
    simp only [runK, sSqK, sIfK, sIfP, tOrK, tAndK, tNotK, tValK, liE, liT, liL, liI, liO, pNotT, pT, p1, p2, pK, pCons, pNil, pYes, pSeq, pAndE, pOrE, pNotE, pAndT, pOrT, pChain, pIf, pTup, pLst, pLc, pDic, pR1, pR2, sRetP, sRetK, sAsP, sAsK, sAoP, sAoK, sDrpK, sPar2K, sPar3K, sForP, sForK, sAppC, mAndK, mOrK, mNotK, mIfK, lConsK, mTupK, mLstK, mMK, m1K, m2K, mLcK, mCallP, mCallK, in_nil, in_cons, re_zero, re_succ, bk_ok, bk_dr, opK_some, opK_none, ooK_some, ooK_none, bK_t, bK_f, hd_cons, tl_cons, s0_cons, st_cons, fl_nx, fl_rt, fl_bk, fl_ct, rt_rt, rt_nx, dB_bl, dI_int, sq_tup, sq_lst, at_tup, al_nil, al_cons, nm_set, isi_tup_t, nh_int, nh_tup, nh_lst, nh_bl, nh_all_nil, nh_all_cons, ln_nil, ln_cons, lc_nil, lc_cons, lk_nil, lk_cons, fo_nil, fo_cons, all_l, any_l, allB_nil, anyB_nil, allB_cons, anyB_cons, ix_t0, ix_l0, ix_l1, ix_t1, ix_t2, ix_t3, pSl, pNo, pPart, pEnum, skip_nx, seq_k, fclk_eq, fck_eq, len_t, len_l, eq_i, ge_i, le_i, lt_i, gt_i, add_i, sub_i, int_i, chl, chle, id_eq, ble_ok, Nat.reduceAdd, List.length_cons, List.length_nil, decide_true, decide_false, Bool.not_true, Bool.not_false, Nat.zero_add, Nat.reduceLeDiff, Int.cast_ofNat_Int, g0, s0, g1, s1, g2, s2, g3, s3, g4, s4, g5, s5, g6, s6, g7, s7, g8, s8, g9, s9, g10, s10, g11, s11, g12, s12, g13, s13, g14, s14, g15, s15, g16, s16, g17, s17, g18, s18, g19, s19, g20, s20, g21, s21, g22, s22, g23, s23, g24, s24, g25, s25, g26, s26, g27, s27, g28, s28, g29, s29, g30, s30, g31, s31, g32, s32, g33, s33, g34, s34, g35, s35, g36, s36, g37, s37, g38, s38, g39, s39, dr10 (show (0 : Int) < 3 by decide) (by decide)]
    intro d hd
    exact trivial, ⟨_, rfl⟩, rfl⟩) (by rw [ivl_len]; omega)
  unfold F14 runK
  refine all_bk ?_
  unfold nn14
  unfold sSqK sRetK
  refine all_bk (all_bk (R.all_mono (p := fun p => ∃ A, p.1 = tZ A ∧ Lot n A ∧ ∃ C, A = 0 :: C) ?_ ?_))
  · rintro ⟨d, s⟩ ⟨A, rfl, h⟩
    exact ⟨A, rfl, h⟩
  unfold m1K m2K
  refine all_bk ?_
  refine all_bk ?_
  refine all_bk ?_
  unfold mLcK
  refine all_bk ?_
  rw [show (liI (pR2 (pK (.int 1)) g1)) (initK [.hnd, .int n] 3) = .ok ((ivl 1 (n - 1).toNat).map D.int, [some .hnd, some (.int n), none]) from by
    show liI (pR2 (pK (.int 1)) g1) [some .hnd, some (.int n), none] = _
    unfold liI
    rw [src]
    rfl]
  refine all_bk (R.all_mono ?_ lc)
  rintro _ ⟨m, hm, rfl⟩
  have hl := hm.length_le
  rw [ivl_len] at hl
  show R.all (opK (oCatL (.lst [.int 0]) (.lst (m.map D.int))) _) _
  rw [cat_l _ _ (by rw [List.length_map]; show 1 + m.length ≤ 1000; omega)]
  exact ⟨0 :: m, rfl, lot_of h1 h2 hm, m, rfl⟩
theorem t8 {n : Int} {A : List Int} (L : Lot n A) : F8 [.int n, tZ A] = .ok (match due n A with | [] => .non | B :: _ => tZ B) := by
  have d59 : ∀ l : List (List Int), dok 60 (.lst (l.map tupZ)) = true := fun l => dok_l (dok_m dok_tz l)
  have e := t7 L
  cases h : due n A with
  | nil =>
    rw [h] at e
    simp only [F8, nn8, runK, sSqK, sIfK, sIfP, tOrK, tAndK, tNotK, tValK, liE, liT, liL, liI, liO, pNotT, pT, p1, p2, pK, pCons, pNil, pYes, pSeq, pAndE, pOrE, pNotE, pAndT, pOrT, pChain, pIf, pTup, pLst, pLc, pDic, pR1, pR2, sRetP, sRetK, sAsP, sAsK, sAoP, sAoK, sDrpK, sPar2K, sPar3K, sForP, sForK, sAppC, mAndK, mOrK, mNotK, mIfK, lConsK, mTupK, mLstK, mMK, m1K, m2K, mLcK, mCallP, mCallK, in_nil, in_cons, re_zero, re_succ, bk_ok, bk_dr, opK_some, opK_none, ooK_some, ooK_none, bK_t, bK_f, hd_cons, tl_cons, s0_cons, st_cons, fl_nx, fl_rt, fl_bk, fl_ct, rt_rt, rt_nx, dB_bl, dI_int, sq_tup, sq_lst, at_tup, al_nil, al_cons, nm_set, isi_tup_t, nh_int, nh_tup, nh_lst, nh_bl, nh_all_nil, nh_all_cons, ln_nil, ln_cons, lc_nil, lc_cons, lk_nil, lk_cons, fo_nil, fo_cons, all_l, any_l, allB_nil, anyB_nil, allB_cons, anyB_cons, ix_t0, ix_l0, ix_l1, ix_t1, ix_t2, ix_t3, pSl, pNo, pPart, pEnum, skip_nx, seq_k, fclk_eq, fck_eq, len_t, len_l, eq_i, ge_i, le_i, lt_i, gt_i, add_i, sub_i, int_i, chl, chle, id_eq, ble_ok, Nat.reduceAdd, List.length_cons, List.length_nil, decide_true, decide_false, Bool.not_true, Bool.not_false, Nat.zero_add, Nat.reduceLeDiff, Int.cast_ofNat_Int, g0, s0, g1, s1, g2, s2, g3, s3, g4, s4, g5, s5, g6, s6, g7, s7, g8, s8, g9, s9, g10, s10, g11, s11, g12, s12, g13, s13, g14, s14, g15, s15, g16, s16, g17, s17, g18, s18, g19, s19, g20, s20, g21, s21, g22, s22, g23, s23, g24, s24, g25, s25, g26, s26, g27, s27, g28, s28, g29, s29, g30, s30, g31, s31, g32, s32, g33, s33, g34, s34, g35, s35, g36, s36, g37, s37, g38, s38, g39, s39, e, List.map_nil, nilL (fun b => !b) [] rfl]
    rfl
  | cons B r =>
    rw [h] at e
    have nl := nilL (fun b => !b) ((B :: r).map tupZ) (d59 _)
    rw [List.map_cons] at nl
    simp only [F8, nn8, runK, sSqK, sIfK, sIfP, tOrK, tAndK, tNotK, tValK, liE, liT, liL, liI, liO, pNotT, pT, p1, p2, pK, pCons, pNil, pYes, pSeq, pAndE, pOrE, pNotE, pAndT, pOrT, pChain, pIf, pTup, pLst, pLc, pDic, pR1, pR2, sRetP, sRetK, sAsP, sAsK, sAoP, sAoK, sDrpK, sPar2K, sPar3K, sForP, sForK, sAppC, mAndK, mOrK, mNotK, mIfK, lConsK, mTupK, mLstK, mMK, m1K, m2K, mLcK, mCallP, mCallK, in_nil, in_cons, re_zero, re_succ, bk_ok, bk_dr, opK_some, opK_none, ooK_some, ooK_none, bK_t, bK_f, hd_cons, tl_cons, s0_cons, st_cons, fl_nx, fl_rt, fl_bk, fl_ct, rt_rt, rt_nx, dB_bl, dI_int, sq_tup, sq_lst, at_tup, al_nil, al_cons, nm_set, isi_tup_t, nh_int, nh_tup, nh_lst, nh_bl, nh_all_nil, nh_all_cons, ln_nil, ln_cons, lc_nil, lc_cons, lk_nil, lk_cons, fo_nil, fo_cons, all_l, any_l, allB_nil, anyB_nil, allB_cons, anyB_cons, ix_t0, ix_l0, ix_l1, ix_t1, ix_t2, ix_t3, pSl, pNo, pPart, pEnum, skip_nx, seq_k, fclk_eq, fck_eq, len_t, len_l, eq_i, ge_i, le_i, lt_i, gt_i, add_i, sub_i, int_i, chl, chle, id_eq, ble_ok, Nat.reduceAdd, List.length_cons, List.length_nil, decide_true, decide_false, Bool.not_true, Bool.not_false, Nat.zero_add, Nat.reduceLeDiff, Int.cast_ofNat_Int, g0, s0, g1, s1, g2, s2, g3, s3, g4, s4, g5, s5, g6, s6, g7, s7, g8, s8, g9, s9, g10, s10, g11, s11, g12, s12, g13, s13, g14, s14, g15, s15, g16, s16, g17, s17, g18, s18, g19, s19, g20, s20, g21, s21, g22, s22, g23, s23, g24, s24, g25, s25, g26, s26, g27, s27, g28, s28, g29, s29, g30, s30, g31, s31, g32, s32, g33, s33, g34, s34, g35, s35, g36, s36, g37, s37, g38, s38, g39, s39, e, List.map_cons, nl, List.isEmpty_cons]
end EV
set_option maxHeartbeats 0
namespace EV
open PySem PySem.Spec PyProof.Rows L2 RZ
/-! is_lot of anything -/
theorem nilT (f : Bool → Bool) (xs : List D) : oEqFK f (.tup xs) (.tup []) = some (.bl (f xs.isEmpty)) := by
  rw [oEqFK_eq]
  show slowEq f (.tup xs) (.tup []) = _
  unfold slowEq
  split
  · cases xs <;> rfl
  · cases xs <;> rfl
def vf (n : Int) : D → Bool
  | .int i => inR n i
  | _ => false
def IT (n : Int) (x : D) : Prop := F1 [x, .int 0, .int (n - 1)] = .ok (.bl (vf n x)) ∧ F12 [x, .int 0, .int (n - 1)] = .ok (.bl (vf n x))
theorem it_int (n i : Int) : IT n (.int i) := by
  constructor
  · rw [t1]
    show _ = R.ok (D.bl (decide (0 ≤ i) && decide (i ≤ n - 1)))
    cases decide (0 ≤ i) <;> rfl
  · show _ = R.ok (D.bl (decide (0 ≤ i) && decide (i ≤ n - 1)))
    simp only [F12, nn12, runK, sSqK, sIfK, sIfP, tOrK, tAndK, tNotK, tValK, liE, liT, liL, liI, liO, pNotT, pT, p1, p2, pK, pCons, pNil, pYes, pSeq, pAndE, pOrE, pNotE, pAndT, pOrT, pChain, pIf, pTup, pLst, pLc, pDic, pR1, pR2, sRetP, sRetK, sAsP, sAsK, sAoP, sAoK, sDrpK, sPar2K, sPar3K, sForP, sForK, sAppC, mAndK, mOrK, mNotK, mIfK, lConsK, mTupK, mLstK, mMK, m1K, m2K, mLcK, mCallP, mCallK, in_nil, in_cons, re_zero, re_succ, bk_ok, bk_dr, opK_some, opK_none, ooK_some, ooK_none, bK_t, bK_f, hd_cons, tl_cons, s0_cons, st_cons, fl_nx, fl_rt, fl_bk, fl_ct, rt_rt, rt_nx, dB_bl, dI_int, sq_tup, sq_lst, at_tup, al_nil, al_cons, nm_set, isi_tup_t, nh_int, nh_tup, nh_lst, nh_bl, nh_all_nil, nh_all_cons, ln_nil, ln_cons, lc_nil, lc_cons, lk_nil, lk_cons, fo_nil, fo_cons, all_l, any_l, allB_nil, anyB_nil, allB_cons, anyB_cons, ix_t0, ix_l0, ix_l1, ix_t1, ix_t2, ix_t3, pSl, pNo, pPart, pEnum, skip_nx, seq_k, fclk_eq, fck_eq, len_t, len_l, eq_i, ge_i, le_i, lt_i, gt_i, add_i, sub_i, int_i, chl, chle, id_eq, ble_ok, Nat.reduceAdd, List.length_cons, List.length_nil, decide_true, decide_false, Bool.not_true, Bool.not_false, Nat.zero_add, Nat.reduceLeDiff, Int.cast_ofNat_Int, g0, s0, g1, s1, g2, s2, g3, s3, g4, s4, g5, s5, g6, s6, g7, s7, g8, s8, g9, s9, g10, s10, g11, s11, g12, s12, g13, s13, g14, s14, g15, s15, g16, s16, g17, s17, g18, s18, g19, s19, g20, s20, g21, s21, g22, s22, g23, s23, g24, s24, g25, s25, g26, s26, g27, s27, g28, s28, g29, s29, g30, s30, g31, s31, g32, s32, g33, s33, g34, s34, g35, s35, g36, s36, g37, s37, g38, s38, g39, s39, show oIsi [.int] (.int i) = some (.bl true) from rfl, show oIsi [.bool] (.int i) = some (.bl false) from rfl]
    cases decide (0 ≤ i) <;> rfl
theorem it_no {n : Int} {x : D} (h : oIsi [.int] x = some (.bl false)) : IT n x := by
  have v : vf n x = false := by
    cases x with
    | int i => cases h
    | _ => rfl
  have e0 : F0 [x] = .ok (.bl false) := by
    simp only [F0, nn0, runK, sSqK, sIfK, sIfP, tOrK, tAndK, tNotK, tValK, liE, liT, liL, liI, liO, pNotT, pT, p1, p2, pK, pCons, pNil, pYes, pSeq, pAndE, pOrE, pNotE, pAndT, pOrT, pChain, pIf, pTup, pLst, pLc, pDic, pR1, pR2, sRetP, sRetK, sAsP, sAsK, sAoP, sAoK, sDrpK, sPar2K, sPar3K, sForP, sForK, sAppC, mAndK, mOrK, mNotK, mIfK, lConsK, mTupK, mLstK, mMK, m1K, m2K, mLcK, mCallP, mCallK, in_nil, in_cons, re_zero, re_succ, bk_ok, bk_dr, opK_some, opK_none, ooK_some, ooK_none, bK_t, bK_f, hd_cons, tl_cons, s0_cons, st_cons, fl_nx, fl_rt, fl_bk, fl_ct, rt_rt, rt_nx, dB_bl, dI_int, sq_tup, sq_lst, at_tup, al_nil, al_cons, nm_set, isi_tup_t, nh_int, nh_tup, nh_lst, nh_bl, nh_all_nil, nh_all_cons, ln_nil, ln_cons, lc_nil, lc_cons, lk_nil, lk_cons, fo_nil, fo_cons, all_l, any_l, allB_nil, anyB_nil, allB_cons, anyB_cons, ix_t0, ix_l0, ix_l1, ix_t1, ix_t2, ix_t3, pSl, pNo, pPart, pEnum, skip_nx, seq_k, fclk_eq, fck_eq, len_t, len_l, eq_i, ge_i, le_i, lt_i, gt_i, add_i, sub_i, int_i, chl, chle, id_eq, ble_ok, Nat.reduceAdd, List.length_cons, List.length_nil, decide_true, decide_false, Bool.not_true, Bool.not_false, Nat.zero_add, Nat.reduceLeDiff, Int.cast_ofNat_Int, g0, s0, g1, s1, g2, s2, g3, s3, g4, s4, g5, s5, g6, s6, g7, s7, g8, s8, g9, s9, g10, s10, g11, s11, g12, s12, g13, s13, g14, s14, g15, s15, g16, s16, g17, s17, g18, s18, g19, s19, g20, s20, g21, s21, g22, s22, g23, s23, g24, s24, g25, s25, g26, s26, g27, s27, g28, s28, g29, s29, g30, s30, g31, s31, g32, s32, g33, s33, g34, s34, g35, s35, g36, s36, g37, s37, g38, s38, g39, s39, h]
  rw [IT, v]
  constructor
  · simp only [F1, nn1, runK, sSqK, sIfK, sIfP, tOrK, tAndK, tNotK, tValK, liE, liT, liL, liI, liO, pNotT, pT, p1, p2, pK, pCons, pNil, pYes, pSeq, pAndE, pOrE, pNotE, pAndT, pOrT, pChain, pIf, pTup, pLst, pLc, pDic, pR1, pR2, sRetP, sRetK, sAsP, sAsK, sAoP, sAoK, sDrpK, sPar2K, sPar3K, sForP, sForK, sAppC, mAndK, mOrK, mNotK, mIfK, lConsK, mTupK, mLstK, mMK, m1K, m2K, mLcK, mCallP, mCallK, in_nil, in_cons, re_zero, re_succ, bk_ok, bk_dr, opK_some, opK_none, ooK_some, ooK_none, bK_t, bK_f, hd_cons, tl_cons, s0_cons, st_cons, fl_nx, fl_rt, fl_bk, fl_ct, rt_rt, rt_nx, dB_bl, dI_int, sq_tup, sq_lst, at_tup, al_nil, al_cons, nm_set, isi_tup_t, nh_int, nh_tup, nh_lst, nh_bl, nh_all_nil, nh_all_cons, ln_nil, ln_cons, lc_nil, lc_cons, lk_nil, lk_cons, fo_nil, fo_cons, all_l, any_l, allB_nil, anyB_nil, allB_cons, anyB_cons, ix_t0, ix_l0, ix_l1, ix_t1, ix_t2, ix_t3, pSl, pNo, pPart, pEnum, skip_nx, seq_k, fclk_eq, fck_eq, len_t, len_l, eq_i, ge_i, le_i, lt_i, gt_i, add_i, sub_i, int_i, chl, chle, id_eq, ble_ok, Nat.reduceAdd, List.length_cons, List.length_nil, decide_true, decide_false, Bool.not_true, Bool.not_false, Nat.zero_add, Nat.reduceLeDiff, Int.cast_ofNat_Int, g0, s0, g1, s1, g2, s2, g3, s3, g4, s4, g5, s5, g6, s6, g7, s7, g8, s8, g9, s9, g10, s10, g11, s11, g12, s12, g13, s13, g14, s14, g15, s15, g16, s16, g17, s17, g18, s18, g19, s19, g20, s20, g21, s21, g22, s22, g23, s23, g24, s24, g25, s25, g26, s26, g27, s27, g28, s28, g29, s29, g30, s30, g31, s31, g32, s32, g33, s33, g34, s34, g35, s35, g36, s36, g37, s37, g38, s38, g39, s39, e0]
  · simp only [F12, nn12, runK, sSqK, sIfK, sIfP, tOrK, tAndK, tNotK, tValK, liE, liT, liL, liI, liO, pNotT, pT, p1, p2, pK, pCons, pNil, pYes, pSeq, pAndE, pOrE, pNotE, pAndT, pOrT, pChain, pIf, pTup, pLst, pLc, pDic, pR1, pR2, sRetP, sRetK, sAsP, sAsK, sAoP, sAoK, sDrpK, sPar2K, sPar3K, sForP, sForK, sAppC, mAndK, mOrK, mNotK, mIfK, lConsK, mTupK, mLstK, mMK, m1K, m2K, mLcK, mCallP, mCallK, in_nil, in_cons, re_zero, re_succ, bk_ok, bk_dr, opK_some, opK_none, ooK_some, ooK_none, bK_t, bK_f, hd_cons, tl_cons, s0_cons, st_cons, fl_nx, fl_rt, fl_bk, fl_ct, rt_rt, rt_nx, dB_bl, dI_int, sq_tup, sq_lst, at_tup, al_nil, al_cons, nm_set, isi_tup_t, nh_int, nh_tup, nh_lst, nh_bl, nh_all_nil, nh_all_cons, ln_nil, ln_cons, lc_nil, lc_cons, lk_nil, lk_cons, fo_nil, fo_cons, all_l, any_l, allB_nil, anyB_nil, allB_cons, anyB_cons, ix_t0, ix_l0, ix_l1, ix_t1, ix_t2, ix_t3, pSl, pNo, pPart, pEnum, skip_nx, seq_k, fclk_eq, fck_eq, len_t, len_l, eq_i, ge_i, le_i, lt_i, gt_i, add_i, sub_i, int_i, chl, chle, id_eq, ble_ok, Nat.reduceAdd, List.length_cons, List.length_nil, decide_true, decide_false, Bool.not_true, Bool.not_false, Nat.zero_add, Nat.reduceLeDiff, Int.cast_ofNat_Int, g0, s0, g1, s1, g2, s2, g3, s3, g4, s4, g5, s5, g6, s6, g7, s7, g8, s8, g9, s9, g10, s10, g11, s11, g12, s12, g13, s13, g14, s14, g15, s15, g16, s16, g17, s17, g18, s18, g19, s19, g20, s20, g21, s21, g22, s22, g23, s23, g24, s24, g25, s25, g26, s26, g27, s27, g28, s28, g29, s29, g30, s30, g31, s31, g32, s32, g33, s33, g34, s34, g35, s35, g36, s36, g37, s37, g38, s38, g39, s39, h]
theorem it_ni {n : Int} {x : D} (h : NI x) : IT n x := by
  rcases h.2 with rfl | h
  · exact it_int n 0
  · exact it_no h
theorem it_tr (n : Int) : IT n (.bl true) := ⟨rfl, rfl⟩
noncomputable abbrev o15 : ME := (mAndK (liE (p1 (oIsi [.tup]) g14)) (mAndK (liE (p2 oGtK (p1 oLenK g14) (pK (.int 0)))) (m1K oAllK (mLcK (liI (pSeq g14)) (aNm s17) (fun st => s17 none (id st)) (liT pYes) (mCallP F12 (pCons g17 (pCons (pK (.int 0)) (pCons (p2 oSubK g3 (pK (.int 1))) pNil))))))))
noncomputable abbrev w15 : PX := (pAndE g15 (p2 (oEqFK id) (p1 oList g14) (p1 oSSet2 g14)))
abbrev lS (n : Int) (x2 x4 x5 x6 x7 x8 x9 x10 x11 x12 x13 x14 x15 x16 x17 : Option D) : AS := [none, some .hnd, x2, some (.int n), x4, x5, x6, x7, x8, x9, x10, x11, x12, x13, x14, x15, x16, x17]
/-- both looks answer alike -/
def T3 (n : Int) (t : D) : Prop := ∀ x2 x4 x5 x6 x7 x8 x9 x10 x11 x12 x13 x15 x16 x17, ∃ b1 b, o15 (lS n x2 x4 x5 x6 x7 x8 x9 x10 x11 x12 x13 (some t) x15 x16 x17) = .ok (.bl b1, lS n x2 x4 x5 x6 x7 x8 x9 x10 x11 x12 x13 (some t) x15 x16 x17) ∧ F3 [.int n, t] = .ok (.bl b) ∧
  w15 (lS n x2 x4 x5 x6 x7 x8 x9 x10 x11 x12 x13 (some t) (some (.bl b1)) x16 x17) = some (.bl b)
theorem T3_no {n : Int} (h1 : 1 ≤ n) (h2 : n ≤ 12) {t : D} (h : oIsi [.tup] t = some (.bl false)) : T3 n t := fun x2 x4 x5 x6 x7 x8 x9 x10 x11 x12 x13 x15 x16 x17 => ⟨false, false, by
    simp only [runK, sSqK, sIfK, sIfP, tOrK, tAndK, tNotK, tValK, liE, liT, liL, liI, liO, pNotT, pT, p1, p2, pK, pCons, pNil, pYes, pSeq, pAndE, pOrE, pNotE, pAndT, pOrT, pChain, pIf, pTup, pLst, pLc, pDic, pR1, pR2, sRetP, sRetK, sAsP, sAsK, sAoP, sAoK, sDrpK, sPar2K, sPar3K, sForP, sForK, sAppC, mAndK, mOrK, mNotK, mIfK, lConsK, mTupK, mLstK, mMK, m1K, m2K, mLcK, mCallP, mCallK, in_nil, in_cons, re_zero, re_succ, bk_ok, bk_dr, opK_some, opK_none, ooK_some, ooK_none, bK_t, bK_f, hd_cons, tl_cons, s0_cons, st_cons, fl_nx, fl_rt, fl_bk, fl_ct, rt_rt, rt_nx, dB_bl, dI_int, sq_tup, sq_lst, at_tup, al_nil, al_cons, nm_set, isi_tup_t, nh_int, nh_tup, nh_lst, nh_bl, nh_all_nil, nh_all_cons, ln_nil, ln_cons, lc_nil, lc_cons, lk_nil, lk_cons, fo_nil, fo_cons, all_l, any_l, allB_nil, anyB_nil, allB_cons, anyB_cons, ix_t0, ix_l0, ix_l1, ix_t1, ix_t2, ix_t3, pSl, pNo, pPart, pEnum, skip_nx, seq_k, fclk_eq, fck_eq, len_t, len_l, eq_i, ge_i, le_i, lt_i, gt_i, add_i, sub_i, int_i, chl, chle, id_eq, ble_ok, Nat.reduceAdd, List.length_cons, List.length_nil, decide_true, decide_false, Bool.not_true, Bool.not_false, Nat.zero_add, Nat.reduceLeDiff, Int.cast_ofNat_Int, g0, s0, g1, s1, g2, s2, g3, s3, g4, s4, g5, s5, g6, s6, g7, s7, g8, s8, g9, s9, g10, s10, g11, s11, g12, s12, g13, s13, g14, s14, g15, s15, g16, s16, g17, s17, g18, s18, g19, s19, g20, s20, g21, s21, g22, s22, g23, s23, g24, s24, g25, s25, g26, s26, g27, s27, g28, s28, g29, s29, g30, s30, g31, s31, g32, s32, g33, s33, g34, s34, g35, s35, g36, s36, g37, s37, g38, s38, g39, s39, h], by
    simp only [F3, nn3, runK, sSqK, sIfK, sIfP, tOrK, tAndK, tNotK, tValK, liE, liT, liL, liI, liO, pNotT, pT, p1, p2, pK, pCons, pNil, pYes, pSeq, pAndE, pOrE, pNotE, pAndT, pOrT, pChain, pIf, pTup, pLst, pLc, pDic, pR1, pR2, sRetP, sRetK, sAsP, sAsK, sAoP, sAoK, sDrpK, sPar2K, sPar3K, sForP, sForK, sAppC, mAndK, mOrK, mNotK, mIfK, lConsK, mTupK, mLstK, mMK, m1K, m2K, mLcK, mCallP, mCallK, in_nil, in_cons, re_zero, re_succ, bk_ok, bk_dr, opK_some, opK_none, ooK_some, ooK_none, bK_t, bK_f, hd_cons, tl_cons, s0_cons, st_cons, fl_nx, fl_rt, fl_bk, fl_ct, rt_rt, rt_nx, dB_bl, dI_int, sq_tup, sq_lst, at_tup, al_nil, al_cons, nm_set, isi_tup_t, nh_int, nh_tup, nh_lst, nh_bl, nh_all_nil, nh_all_cons, ln_nil, ln_cons, lc_nil, lc_cons, lk_nil, lk_cons, fo_nil, fo_cons, all_l, any_l, allB_nil, anyB_nil, allB_cons, anyB_cons, ix_t0, ix_l0, ix_l1, ix_t1, ix_t2, ix_t3, pSl, pNo, pPart, pEnum, skip_nx, seq_k, fclk_eq, fck_eq, len_t, len_l, eq_i, ge_i, le_i, lt_i, gt_i, add_i, sub_i, int_i, chl, chle, id_eq, ble_ok, Nat.reduceAdd, List.length_cons, List.length_nil, decide_true, decide_false, Bool.not_true, Bool.not_false, Nat.zero_add, Nat.reduceLeDiff, Int.cast_ofNat_Int, g0, s0, g1, s1, g2, s2, g3, s3, g4, s4, g5, s5, g6, s6, g7, s7, g8, s8, g9, s9, g10, s10, g11, s11, g12, s12, g13, s13, g14, s14, g15, s15, g16, s16, g17, s17, g18, s18, g19, s19, g20, s20, g21, s21, g22, s22, g23, s23, g24, s24, g25, s25, g26, s26, g27, s27, g28, s28, g29, s29, g30, s30, g31, s31, g32, s32, g33, s33, g34, s34, g35, s35, g36, s36, g37, s37, g38, s38, g39, s39, t2 h1 h2, h], by
    simp only [runK, sSqK, sIfK, sIfP, tOrK, tAndK, tNotK, tValK, liE, liT, liL, liI, liO, pNotT, pT, p1, p2, pK, pCons, pNil, pYes, pSeq, pAndE, pOrE, pNotE, pAndT, pOrT, pChain, pIf, pTup, pLst, pLc, pDic, pR1, pR2, sRetP, sRetK, sAsP, sAsK, sAoP, sAoK, sDrpK, sPar2K, sPar3K, sForP, sForK, sAppC, mAndK, mOrK, mNotK, mIfK, lConsK, mTupK, mLstK, mMK, m1K, m2K, mLcK, mCallP, mCallK, in_nil, in_cons, re_zero, re_succ, bk_ok, bk_dr, opK_some, opK_none, ooK_some, ooK_none, bK_t, bK_f, hd_cons, tl_cons, s0_cons, st_cons, fl_nx, fl_rt, fl_bk, fl_ct, rt_rt, rt_nx, dB_bl, dI_int, sq_tup, sq_lst, at_tup, al_nil, al_cons, nm_set, isi_tup_t, nh_int, nh_tup, nh_lst, nh_bl, nh_all_nil, nh_all_cons, ln_nil, ln_cons, lc_nil, lc_cons, lk_nil, lk_cons, fo_nil, fo_cons, all_l, any_l, allB_nil, anyB_nil, allB_cons, anyB_cons, ix_t0, ix_l0, ix_l1, ix_t1, ix_t2, ix_t3, pSl, pNo, pPart, pEnum, skip_nx, seq_k, fclk_eq, fck_eq, len_t, len_l, eq_i, ge_i, le_i, lt_i, gt_i, add_i, sub_i, int_i, chl, chle, id_eq, ble_ok, Nat.reduceAdd, List.length_cons, List.length_nil, decide_true, decide_false, Bool.not_true, Bool.not_false, Nat.zero_add, Nat.reduceLeDiff, Int.cast_ofNat_Int, g0, s0, g1, s1, g2, s2, g3, s3, g4, s4, g5, s5, g6, s6, g7, s7, g8, s8, g9, s9, g10, s10, g11, s11, g12, s12, g13, s13, g14, s14, g15, s15, g16, s16, g17, s17, g18, s18, g19, s19, g20, s20, g21, s21, g22, s22, g23, s23, g24, s24, g25, s25, g26, s26, g27, s27, g28, s28, g29, s29, g30, s30, g31, s31, g32, s32, g33, s33, g34, s34, g35, s35, g36, s36, g37, s37, g38, s38, g39, s39]⟩
theorem all_all {α : Type} (f : α → Bool) (l : List α) : oAllK (.lst (l.map fun a => .bl (f a))) = some (.bl (l.all f)) := by
  rw [all_l, allB_mapg]
  rfl
theorem ups_iff : ∀ {l : List Int}, ups l = true ↔ l.Pairwise (· < ·)
  | [] => ⟨fun _ => List.Pairwise.nil, fun _ => rfl⟩
  | [x] => ⟨fun _ => List.pairwise_singleton _ _, fun _ => rfl⟩
  | x :: y :: r => by
    show (decide (x < y) && ups (y :: r)) = true ↔ _
    rw [Bool.and_eq_true, decide_eq_true_eq, ups_iff (l := y :: r)]
    constructor
    · rintro ⟨h, p⟩
      refine List.pairwise_cons.mpr ⟨fun z hz => ?_, p⟩
      rcases List.mem_cons.mp hz with rfl | hz
      · exact h
      · have := (List.pairwise_cons.mp p).1 z hz
        omega
    · intro q
      obtain ⟨h, p⟩ := List.pairwise_cons.mp q
      exact ⟨h y (by simp), p⟩
theorem isort_eq (B : List Int) : decide (B = isort B) = ups B := by
  rw [Bool.eq_iff_iff, decide_eq_true_eq, ups_iff]
  constructor
  · intro h
    rw [h]
    exact isort_ok.1
  · intro h
    exact uniq (f := id) (fun x _ y _ e => e) h isort_ok.1 (fun x hx => (isort_ok.2 x).mpr hx) fun x hx => (isort_ok.2 x).mp hx
theorem ints_if {n : Int} : ∀ {xs : List D}, xs.all (vf n) = true → ∃ B : List Int, xs = B.map D.int ∧ B.all (inR n) = true
  | [], _ => ⟨[], rfl, rfl⟩
  | x :: r, h => by
    rw [List.all_cons, Bool.and_eq_true] at h
    obtain ⟨B, rfl, hB⟩ := ints_if h.2
    cases x with
    | int i => exact ⟨i :: B, rfl, by rw [List.all_cons, hB, Bool.and_true]; exact h.1⟩
    | _ => cases h.1
theorem T3_tup {n : Int} (h1 : 1 ≤ n) (h2 : n ≤ 12) {xs : List D} (hl : xs.length < 60) (h : ∀ x ∈ xs, IT n x) : T3 n (.tup xs) := fun x2 x4 x5 x6 x7 x8 x9 x10 x11 x12 x13 x15 x16 x17 => by
  by_cases e : xs = []
  · subst e
    refine ⟨false, false, ?_, ?_, ?_⟩
    · simp only [runK, sSqK, sIfK, sIfP, tOrK, tAndK, tNotK, tValK, liE, liT, liL, liI, liO, pNotT, pT, p1, p2, pK, pCons, pNil, pYes, pSeq, pAndE, pOrE, pNotE, pAndT, pOrT, pChain, pIf, pTup, pLst, pLc, pDic, pR1, pR2, sRetP, sRetK, sAsP, sAsK, sAoP, sAoK, sDrpK, sPar2K, sPar3K, sForP, sForK, sAppC, mAndK, mOrK, mNotK, mIfK, lConsK, mTupK, mLstK, mMK, m1K, m2K, mLcK, mCallP, mCallK, in_nil, in_cons, re_zero, re_succ, bk_ok, bk_dr, opK_some, opK_none, ooK_some, ooK_none, bK_t, bK_f, hd_cons, tl_cons, s0_cons, st_cons, fl_nx, fl_rt, fl_bk, fl_ct, rt_rt, rt_nx, dB_bl, dI_int, sq_tup, sq_lst, at_tup, al_nil, al_cons, nm_set, isi_tup_t, nh_int, nh_tup, nh_lst, nh_bl, nh_all_nil, nh_all_cons, ln_nil, ln_cons, lc_nil, lc_cons, lk_nil, lk_cons, fo_nil, fo_cons, all_l, any_l, allB_nil, anyB_nil, allB_cons, anyB_cons, ix_t0, ix_l0, ix_l1, ix_t1, ix_t2, ix_t3, pSl, pNo, pPart, pEnum, skip_nx, seq_k, fclk_eq, fck_eq, len_t, len_l, eq_i, ge_i, le_i, lt_i, gt_i, add_i, sub_i, int_i, chl, chle, id_eq, ble_ok, Nat.reduceAdd, List.length_cons, List.length_nil, decide_true, decide_false, Bool.not_true, Bool.not_false, Nat.zero_add, Nat.reduceLeDiff, Int.cast_ofNat_Int, g0, s0, g1, s1, g2, s2, g3, s3, g4, s4, g5, s5, g6, s6, g7, s7, g8, s8, g9, s9, g10, s10, g11, s11, g12, s12, g13, s13, g14, s14, g15, s15, g16, s16, g17, s17, g18, s18, g19, s19, g20, s20, g21, s21, g22, s22, g23, s23, g24, s24, g25, s25, g26, s26, g27, s27, g28, s28, g29, s29, g30, s30, g31, s31, g32, s32, g33, s33, g34, s34, g35, s35, g36, s36, g37, s37, g38, s38, g39, s39, show oIsi [.tup] (.tup []) = some (.bl true) from rfl]
      rfl
    · simp only [F3, nn3, runK, sSqK, sIfK, sIfP, tOrK, tAndK, tNotK, tValK, liE, liT, liL, liI, liO, pNotT, pT, p1, p2, pK, pCons, pNil, pYes, pSeq, pAndE, pOrE, pNotE, pAndT, pOrT, pChain, pIf, pTup, pLst, pLc, pDic, pR1, pR2, sRetP, sRetK, sAsP, sAsK, sAoP, sAoK, sDrpK, sPar2K, sPar3K, sForP, sForK, sAppC, mAndK, mOrK, mNotK, mIfK, lConsK, mTupK, mLstK, mMK, m1K, m2K, mLcK, mCallP, mCallK, in_nil, in_cons, re_zero, re_succ, bk_ok, bk_dr, opK_some, opK_none, ooK_some, ooK_none, bK_t, bK_f, hd_cons, tl_cons, s0_cons, st_cons, fl_nx, fl_rt, fl_bk, fl_ct, rt_rt, rt_nx, dB_bl, dI_int, sq_tup, sq_lst, at_tup, al_nil, al_cons, nm_set, isi_tup_t, nh_int, nh_tup, nh_lst, nh_bl, nh_all_nil, nh_all_cons, ln_nil, ln_cons, lc_nil, lc_cons, lk_nil, lk_cons, fo_nil, fo_cons, all_l, any_l, allB_nil, anyB_nil, allB_cons, anyB_cons, ix_t0, ix_l0, ix_l1, ix_t1, ix_t2, ix_t3, pSl, pNo, pPart, pEnum, skip_nx, seq_k, fclk_eq, fck_eq, len_t, len_l, eq_i, ge_i, le_i, lt_i, gt_i, add_i, sub_i, int_i, chl, chle, id_eq, ble_ok, Nat.reduceAdd, List.length_cons, List.length_nil, decide_true, decide_false, Bool.not_true, Bool.not_false, Nat.zero_add, Nat.reduceLeDiff, Int.cast_ofNat_Int, g0, s0, g1, s1, g2, s2, g3, s3, g4, s4, g5, s5, g6, s6, g7, s7, g8, s8, g9, s9, g10, s10, g11, s11, g12, s12, g13, s13, g14, s14, g15, s15, g16, s16, g17, s17, g18, s18, g19, s19, g20, s20, g21, s21, g22, s22, g23, s23, g24, s24, g25, s25, g26, s26, g27, s27, g28, s28, g29, s29, g30, s30, g31, s31, g32, s32, g33, s33, g34, s34, g35, s35, g36, s36, g37, s37, g38, s38, g39, s39, t2 h1 h2, show oIsi [.tup] (.tup []) = some (.bl true) from rfl, nilT, List.isEmpty_nil]
    · simp only [runK, sSqK, sIfK, sIfP, tOrK, tAndK, tNotK, tValK, liE, liT, liL, liI, liO, pNotT, pT, p1, p2, pK, pCons, pNil, pYes, pSeq, pAndE, pOrE, pNotE, pAndT, pOrT, pChain, pIf, pTup, pLst, pLc, pDic, pR1, pR2, sRetP, sRetK, sAsP, sAsK, sAoP, sAoK, sDrpK, sPar2K, sPar3K, sForP, sForK, sAppC, mAndK, mOrK, mNotK, mIfK, lConsK, mTupK, mLstK, mMK, m1K, m2K, mLcK, mCallP, mCallK, in_nil, in_cons, re_zero, re_succ, bk_ok, bk_dr, opK_some, opK_none, ooK_some, ooK_none, bK_t, bK_f, hd_cons, tl_cons, s0_cons, st_cons, fl_nx, fl_rt, fl_bk, fl_ct, rt_rt, rt_nx, dB_bl, dI_int, sq_tup, sq_lst, at_tup, al_nil, al_cons, nm_set, isi_tup_t, nh_int, nh_tup, nh_lst, nh_bl, nh_all_nil, nh_all_cons, ln_nil, ln_cons, lc_nil, lc_cons, lk_nil, lk_cons, fo_nil, fo_cons, all_l, any_l, allB_nil, anyB_nil, allB_cons, anyB_cons, ix_t0, ix_l0, ix_l1, ix_t1, ix_t2, ix_t3, pSl, pNo, pPart, pEnum, skip_nx, seq_k, fclk_eq, fck_eq, len_t, len_l, eq_i, ge_i, le_i, lt_i, gt_i, add_i, sub_i, int_i, chl, chle, id_eq, ble_ok, Nat.reduceAdd, List.length_cons, List.length_nil, decide_true, decide_false, Bool.not_true, Bool.not_false, Nat.zero_add, Nat.reduceLeDiff, Int.cast_ofNat_Int, g0, s0, g1, s1, g2, s2, g3, s3, g4, s4, g5, s5, g6, s6, g7, s7, g8, s8, g9, s9, g10, s10, g11, s11, g12, s12, g13, s13, g14, s14, g15, s15, g16, s16, g17, s17, g18, s18, g19, s19, g20, s20, g21, s21, g22, s22, g23, s23, g24, s24, g25, s25, g26, s26, g27, s27, g28, s28, g29, s29, g30, s30, g31, s31, g32, s32, g33, s33, g34, s34, g35, s35, g36, s36, g37, s37, g38, s38, g39, s39]
  · have ps : 0 < xs.length := List.length_pos_iff.mpr e
    have e1 := lcK_mapg (A := aNm s17) (st := lS n x2 x4 x5 x6 x7 x8 x9 x10 x11 x12 x13 (some (.tup xs)) x15 x16 none) (c := liT pYes) (e := mCallP F12 (pCons g17 (pCons (pK (.int 0)) (pCons (p2 oSubK g3 (pK (.int 1))) pNil)))) (g := id) (h := fun x => .bl (vf n x)) xs 0 (fun x hx => ⟨lS n x2 x4 x5 x6 x7 x8 x9 x10 x11 x12 x13 (some (.tup xs)) x15 x16 (some x), rfl, ⟨_, rfl⟩, ⟨_, callP_ok (xs := [x, .int 0, .int (n - 1)]) (by simp only [runK, sSqK, sIfK, sIfP, tOrK, tAndK, tNotK, tValK, liE, liT, liL, liI, liO, pNotT, pT, p1, p2, pK, pCons, pNil, pYes, pSeq, pAndE, pOrE, pNotE, pAndT, pOrT, pChain, pIf, pTup, pLst, pLc, pDic, pR1, pR2, sRetP, sRetK, sAsP, sAsK, sAoP, sAoK, sDrpK, sPar2K, sPar3K, sForP, sForK, sAppC, mAndK, mOrK, mNotK, mIfK, lConsK, mTupK, mLstK, mMK, m1K, m2K, mLcK, mCallP, mCallK, in_nil, in_cons, re_zero, re_succ, bk_ok, bk_dr, opK_some, opK_none, ooK_some, ooK_none, bK_t, bK_f, hd_cons, tl_cons, s0_cons, st_cons, fl_nx, fl_rt, fl_bk, fl_ct, rt_rt, rt_nx, dB_bl, dI_int, sq_tup, sq_lst, at_tup, al_nil, al_cons, nm_set, isi_tup_t, nh_int, nh_tup, nh_lst, nh_bl, nh_all_nil, nh_all_cons, ln_nil, ln_cons, lc_nil, lc_cons, lk_nil, lk_cons, fo_nil, fo_cons, all_l, any_l, allB_nil, anyB_nil, allB_cons, anyB_cons, ix_t0, ix_l0, ix_l1, ix_t1, ix_t2, ix_t3, pSl, pNo, pPart, pEnum, skip_nx, seq_k, fclk_eq, fck_eq, len_t, len_l, eq_i, ge_i, le_i, lt_i, gt_i, add_i, sub_i, int_i, chl, chle, id_eq, ble_ok, Nat.reduceAdd, List.length_cons, List.length_nil, decide_true, decide_false, Bool.not_true, Bool.not_false, Nat.zero_add, Nat.reduceLeDiff, Int.cast_ofNat_Int, g0, s0, g1, s1, g2, s2, g3, s3, g4, s4, g5, s5, g6, s6, g7, s7, g8, s8, g9, s9, g10, s10, g11, s11, g12, s12, g13, s13, g14, s14, g15, s15, g16, s16, g17, s17, g18, s18, g19, s19, g20, s20, g21, s21, g22, s22, g23, s23, g24, s24, g25, s25, g26, s26, g27, s27, g28, s28, g29, s29, g30, s30, g31, s31, g32, s32, g33, s33, g34, s34, g35, s35, g36, s36, g37, s37, g38, s38, g39, s39]) (h x hx).2⟩, rfl⟩) (by omega)
    rw [List.map_id] at e1
    have e2 := all_all (vf n) xs
    have o : o15 (lS n x2 x4 x5 x6 x7 x8 x9 x10 x11 x12 x13 (some (.tup xs)) x15 x16 x17) = .ok (.bl (xs.all (vf n)), lS n x2 x4 x5 x6 x7 x8 x9 x10 x11 x12 x13 (some (.tup xs)) x15 x16 x17) := by
      have gt : decide ((0 : Int) < (xs.length : Nat)) = true := decide_eq_true (by omega)
      unfold o15 mAndK
      rw [liE_ok (d := .bl true) rfl, bk_ok, dB_bl, opK_some, bK_t]
      rw [liE_ok (d := .bl (decide ((0 : Int) < (xs.length : Nat)))) (p2_of (p1_of rfl (len_t xs)) rfl (gt_i _ _)), bk_ok, gt, dB_bl, opK_some, bK_t]
      refine m1_ok ?_ e2
      unfold mLcK
      show bindK (lcK (aNm s17) (liT pYes) _ (lS n x2 x4 x5 x6 x7 x8 x9 x10 x11 x12 x13 (some (.tup xs)) x15 x16 none) xs 0) _ = _
      rw [e1]
      rfl
    have f1 := lcK_mapg (A := aNm s2) (st := [some (.int n), some (.tup xs), none, none]) (c := liT pYes) (e := mCallP F1 (pCons g2 (pCons (pK (.int 0)) (pCons (p2 oSubK g0 (pK (.int 1))) pNil)))) (g := id) (h := fun x => .bl (vf n x)) xs 0 (fun x hx => ⟨[some (.int n), some (.tup xs), some x, none], rfl, ⟨_, rfl⟩, ⟨_, callP_ok (xs := [x, .int 0, .int (n - 1)]) (by simp only [runK, sSqK, sIfK, sIfP, tOrK, tAndK, tNotK, tValK, liE, liT, liL, liI, liO, pNotT, pT, p1, p2, pK, pCons, pNil, pYes, pSeq, pAndE, pOrE, pNotE, pAndT, pOrT, pChain, pIf, pTup, pLst, pLc, pDic, pR1, pR2, sRetP, sRetK, sAsP, sAsK, sAoP, sAoK, sDrpK, sPar2K, sPar3K, sForP, sForK, sAppC, mAndK, mOrK, mNotK, mIfK, lConsK, mTupK, mLstK, mMK, m1K, m2K, mLcK, mCallP, mCallK, in_nil, in_cons, re_zero, re_succ, bk_ok, bk_dr, opK_some, opK_none, ooK_some, ooK_none, bK_t, bK_f, hd_cons, tl_cons, s0_cons, st_cons, fl_nx, fl_rt, fl_bk, fl_ct, rt_rt, rt_nx, dB_bl, dI_int, sq_tup, sq_lst, at_tup, al_nil, al_cons, nm_set, isi_tup_t, nh_int, nh_tup, nh_lst, nh_bl, nh_all_nil, nh_all_cons, ln_nil, ln_cons, lc_nil, lc_cons, lk_nil, lk_cons, fo_nil, fo_cons, all_l, any_l, allB_nil, anyB_nil, allB_cons, anyB_cons, ix_t0, ix_l0, ix_l1, ix_t1, ix_t2, ix_t3, pSl, pNo, pPart, pEnum, skip_nx, seq_k, fclk_eq, fck_eq, len_t, len_l, eq_i, ge_i, le_i, lt_i, gt_i, add_i, sub_i, int_i, chl, chle, id_eq, ble_ok, Nat.reduceAdd, List.length_cons, List.length_nil, decide_true, decide_false, Bool.not_true, Bool.not_false, Nat.zero_add, Nat.reduceLeDiff, Int.cast_ofNat_Int, g0, s0, g1, s1, g2, s2, g3, s3, g4, s4, g5, s5, g6, s6, g7, s7, g8, s8, g9, s9, g10, s10, g11, s11, g12, s12, g13, s13, g14, s14, g15, s15, g16, s16, g17, s17, g18, s18, g19, s19, g20, s20, g21, s21, g22, s22, g23, s23, g24, s24, g25, s25, g26, s26, g27, s27, g28, s28, g29, s29, g30, s30, g31, s31, g32, s32, g33, s33, g34, s34, g35, s35, g36, s36, g37, s37, g38, s38, g39, s39]) (h x hx).1⟩, rfl⟩) (by omega)
    rw [List.map_id] at f1
    cases ea : xs.all (vf n) with
    | false =>
      rw [ea] at o e2
      refine ⟨false, false, o, ?_, by simp only [runK, sSqK, sIfK, sIfP, tOrK, tAndK, tNotK, tValK, liE, liT, liL, liI, liO, pNotT, pT, p1, p2, pK, pCons, pNil, pYes, pSeq, pAndE, pOrE, pNotE, pAndT, pOrT, pChain, pIf, pTup, pLst, pLc, pDic, pR1, pR2, sRetP, sRetK, sAsP, sAsK, sAoP, sAoK, sDrpK, sPar2K, sPar3K, sForP, sForK, sAppC, mAndK, mOrK, mNotK, mIfK, lConsK, mTupK, mLstK, mMK, m1K, m2K, mLcK, mCallP, mCallK, in_nil, in_cons, re_zero, re_succ, bk_ok, bk_dr, opK_some, opK_none, ooK_some, ooK_none, bK_t, bK_f, hd_cons, tl_cons, s0_cons, st_cons, fl_nx, fl_rt, fl_bk, fl_ct, rt_rt, rt_nx, dB_bl, dI_int, sq_tup, sq_lst, at_tup, al_nil, al_cons, nm_set, isi_tup_t, nh_int, nh_tup, nh_lst, nh_bl, nh_all_nil, nh_all_cons, ln_nil, ln_cons, lc_nil, lc_cons, lk_nil, lk_cons, fo_nil, fo_cons, all_l, any_l, allB_nil, anyB_nil, allB_cons, anyB_cons, ix_t0, ix_l0, ix_l1, ix_t1, ix_t2, ix_t3, pSl, pNo, pPart, pEnum, skip_nx, seq_k, fclk_eq, fck_eq, len_t, len_l, eq_i, ge_i, le_i, lt_i, gt_i, add_i, sub_i, int_i, chl, chle, id_eq, ble_ok, Nat.reduceAdd, List.length_cons, List.length_nil, decide_true, decide_false, Bool.not_true, Bool.not_false, Nat.zero_add, Nat.reduceLeDiff, Int.cast_ofNat_Int, g0, s0, g1, s1, g2, s2, g3, s3, g4, s4, g5, s5, g6, s6, g7, s7, g8, s8, g9, s9, g10, s10, g11, s11, g12, s12, g13, s13, g14, s14, g15, s15, g16, s16, g17, s17, g18, s18, g19, s19, g20, s20, g21, s21, g22, s22, g23, s23, g24, s24, g25, s25, g26, s26, g27, s27, g28, s28, g29, s29, g30, s30, g31, s31, g32, s32, g33, s33, g34, s34, g35, s35, g36, s36, g37, s37, g38, s38, g39, s39]⟩
      have ne : xs.isEmpty = false := by cases xs <;> first | rfl | exact absurd rfl e
      simp only [runK, sSqK, sIfK, sIfP, tOrK, tAndK, tNotK, tValK, liE, liT, liL, liI, liO, pNotT, pT, p1, p2, pK, pCons, pNil, pYes, pSeq, pAndE, pOrE, pNotE, pAndT, pOrT, pChain, pIf, pTup, pLst, pLc, pDic, pR1, pR2, sRetP, sRetK, sAsP, sAsK, sAoP, sAoK, sDrpK, sPar2K, sPar3K, sForP, sForK, sAppC, mAndK, mOrK, mNotK, mIfK, lConsK, mTupK, mLstK, mMK, m1K, m2K, mLcK, mCallP, mCallK, in_nil, in_cons, re_zero, re_succ, bk_ok, bk_dr, opK_some, opK_none, ooK_some, ooK_none, bK_t, bK_f, hd_cons, tl_cons, s0_cons, st_cons, fl_nx, fl_rt, fl_bk, fl_ct, rt_rt, rt_nx, dB_bl, dI_int, sq_tup, sq_lst, at_tup, al_nil, al_cons, nm_set, isi_tup_t, nh_int, nh_tup, nh_lst, nh_bl, nh_all_nil, nh_all_cons, ln_nil, ln_cons, lc_nil, lc_cons, lk_nil, lk_cons, fo_nil, fo_cons, all_l, any_l, allB_nil, anyB_nil, allB_cons, anyB_cons, ix_t0, ix_l0, ix_l1, ix_t1, ix_t2, ix_t3, pSl, pNo, pPart, pEnum, skip_nx, seq_k, fclk_eq, fck_eq, len_t, len_l, eq_i, ge_i, le_i, lt_i, gt_i, add_i, sub_i, int_i, chl, chle, id_eq, ble_ok, Nat.reduceAdd, List.length_cons, List.length_nil, decide_true, decide_false, Bool.not_true, Bool.not_false, Nat.zero_add, Nat.reduceLeDiff, Int.cast_ofNat_Int, g0, s0, g1, s1, g2, s2, g3, s3, g4, s4, g5, s5, g6, s6, g7, s7, g8, s8, g9, s9, g10, s10, g11, s11, g12, s12, g13, s13, g14, s14, g15, s15, g16, s16, g17, s17, g18, s18, g19, s19, g20, s20, g21, s21, g22, s22, g23, s23, g24, s24, g25, s25, g26, s26, g27, s27, g28, s28, g29, s29, g30, s30, g31, s31, g32, s32, g33, s33, g34, s34, g35, s35, g36, s36, g37, s37, g38, s38, g39, s39] at f1
      simp only [F3, nn3, runK, sSqK, sIfK, sIfP, tOrK, tAndK, tNotK, tValK, liE, liT, liL, liI, liO, pNotT, pT, p1, p2, pK, pCons, pNil, pYes, pSeq, pAndE, pOrE, pNotE, pAndT, pOrT, pChain, pIf, pTup, pLst, pLc, pDic, pR1, pR2, sRetP, sRetK, sAsP, sAsK, sAoP, sAoK, sDrpK, sPar2K, sPar3K, sForP, sForK, sAppC, mAndK, mOrK, mNotK, mIfK, lConsK, mTupK, mLstK, mMK, m1K, m2K, mLcK, mCallP, mCallK, in_nil, in_cons, re_zero, re_succ, bk_ok, bk_dr, opK_some, opK_none, ooK_some, ooK_none, bK_t, bK_f, hd_cons, tl_cons, s0_cons, st_cons, fl_nx, fl_rt, fl_bk, fl_ct, rt_rt, rt_nx, dB_bl, dI_int, sq_tup, sq_lst, at_tup, al_nil, al_cons, nm_set, isi_tup_t, nh_int, nh_tup, nh_lst, nh_bl, nh_all_nil, nh_all_cons, ln_nil, ln_cons, lc_nil, lc_cons, lk_nil, lk_cons, fo_nil, fo_cons, all_l, any_l, allB_nil, anyB_nil, allB_cons, anyB_cons, ix_t0, ix_l0, ix_l1, ix_t1, ix_t2, ix_t3, pSl, pNo, pPart, pEnum, skip_nx, seq_k, fclk_eq, fck_eq, len_t, len_l, eq_i, ge_i, le_i, lt_i, gt_i, add_i, sub_i, int_i, chl, chle, id_eq, ble_ok, Nat.reduceAdd, List.length_cons, List.length_nil, decide_true, decide_false, Bool.not_true, Bool.not_false, Nat.zero_add, Nat.reduceLeDiff, Int.cast_ofNat_Int, g0, s0, g1, s1, g2, s2, g3, s3, g4, s4, g5, s5, g6, s6, g7, s7, g8, s8, g9, s9, g10, s10, g11, s11, g12, s12, g13, s13, g14, s14, g15, s15, g16, s16, g17, s17, g18, s18, g19, s19, g20, s20, g21, s21, g22, s22, g23, s23, g24, s24, g25, s25, g26, s26, g27, s27, g28, s28, g29, s29, g30, s30, g31, s31, g32, s32, g33, s33, g34, s34, g35, s35, g36, s36, g37, s37, g38, s38, g39, s39, t2 h1 h2, show oIsi [.tup] (.tup xs) = some (.bl true) from rfl, nilT, ne, id_eq, f1, e2]
    | true =>
      rw [ea] at o
      obtain ⟨B, rfl, hB⟩ := ints_if ea
      rw [List.length_map] at hl
      have hB0 : B ≠ [] := fun q => e (by rw [q]; rfl)
      refine ⟨true, ups B, o, ?_, ?_⟩
      · rw [t3 h1 h2 (by omega) hB0, hB, Bool.true_and]
      · have ss : oSSet2 (tZ B) = some (.lst ((isort B).map D.int)) := by
          unfold oSSet2
          simp only [ints_map, show Nat.blt B.length 64 = true from Nat.ble_eq_true_of_le (by omega)]
        have q := eqLZ id B (isort B)
        rw [isort_eq] at q
        have w := p2_of (x := p1 oList g14) (y := p1 oSSet2 g14) (st := lS n x2 x4 x5 x6 x7 x8 x9 x10 x11 x12 x13 (some (tZ B)) (some (.bl true)) x16 x17) (p1_of (d := tZ B) (e := .lst (B.map D.int)) rfl rfl) (p1_of (d := tZ B) rfl ss) q
        show ooK (g15 (lS n x2 x4 x5 x6 x7 x8 x9 x10 x11 x12 x13 (some (tZ B)) (some (.bl true)) x16 x17)) (fun x => ooK (dBK x) fun c => bK c ((p2 (oEqFK id) (p1 oList g14) (p1 oSSet2 g14)) (lS n x2 x4 x5 x6 x7 x8 x9 x10 x11 x12 x13 (some (tZ B)) (some (.bl true)) x16 x17)) (some (.bl false))) = _
        rw [w]
        rfl
end EV
set_option maxHeartbeats 0
namespace EV
open PySem PySem.Spec PyProof.Rows L2 RZ
theorem T3_deep {n : Int} (h1 : 1 ≤ n) (h2 : n ≤ 12) {d : D} (h : DpQ d) : T3 n d := by
  rcases h.2 with ⟨x, rfl, hx⟩ | q
  · exact T3_tup h1 h2 (by simp) fun y hy => by cases List.mem_singleton.mp hy; exact it_ni hx
  · exact T3_no h1 h2 q
theorem T3_ints {n : Int} (h1 : 1 ≤ n) (h2 : n ≤ 12) {B : List Int} (hl : B.length < 60) : T3 n (tZ B) := T3_tup h1 h2 (by rw [List.length_map]; exact hl) fun x hx => by
  obtain ⟨i, _, rfl⟩ := List.mem_map.mp hx
  exact it_int n i
noncomputable abbrev m17 : ME := m2K oCatL (liE g10) (mLstK (lConsK (mCallP F13 (pCons g1 pNil)) (liL (pCons g8 pNil))))
theorem m17_all {n : Int} {M : List Int} {Th : List D} (hl : Th.length ≤ 100) {x2 x4 x5 x6 x7 x9 x11 x12 x13 x14 x15 x16 x17 : Option D} : (m17 (lS n x2 x4 x5 x6 x7 (some (tZ M)) x9 (some (.lst Th)) x11 x12 x13 x14 x15 x16 x17)).all fun p => p.2 = lS n x2 x4 x5 x6 x7 (some (tZ M)) x9 (some (.lst Th)) x11 x12 x13 x14 x15 x16 x17 ∧ ∃ r, DpQ r ∧ p.1 = .lst (Th ++ [r, tZ M]) := by
  have c : (mCallP F13 (pCons g1 pNil) (lS n x2 x4 x5 x6 x7 (some (tZ M)) x9 (some (.lst Th)) x11 x12 x13 x14 x15 x16 x17)).all fun p => p.2 = lS n x2 x4 x5 x6 x7 (some (tZ M)) x9 (some (.lst Th)) x11 x12 x13 x14 x15 x16 x17 ∧ DpQ p.1 := callP_all (xs := [.hnd]) rfl deep_all
  unfold m17 m2K liE
  refine all_bk ?_
  rw [show g10 (lS n x2 x4 x5 x6 x7 (some (tZ M)) x9 (some (.lst Th)) x11 x12 x13 x14 x15 x16 x17) = some (.lst Th) from rfl, opK_some]
  show R.all _ _
  refine all_bk ?_
  unfold mLstK
  refine all_bk (R.all_mono (p := fun p => p.2 = lS n x2 x4 x5 x6 x7 (some (tZ M)) x9 (some (.lst Th)) x11 x12 x13 x14 x15 x16 x17 ∧ ∃ r, DpQ r ∧ p.1 = [r, tZ M]) ?_ ?_)
  · rintro ⟨l, s'⟩ ⟨e, r, hr, e2⟩
    simp only at e e2
    subst e e2
    simp only [runK, sSqK, sIfK, sIfP, tOrK, tAndK, tNotK, tValK, liE, liT, liL, liI, liO, pNotT, pT, p1, p2, pK, pCons, pNil, pYes, pSeq, pAndE, pOrE, pNotE, pAndT, pOrT, pChain, pIf, pTup, pLst, pLc, pDic, pR1, pR2, sRetP, sRetK, sAsP, sAsK, sAoP, sAoK, sDrpK, sPar2K, sPar3K, sForP, sForK, sAppC, mAndK, mOrK, mNotK, mIfK, lConsK, mTupK, mLstK, mMK, m1K, m2K, mLcK, mCallP, mCallK, in_nil, in_cons, re_zero, re_succ, bk_ok, bk_dr, opK_some, opK_none, ooK_some, ooK_none, bK_t, bK_f, hd_cons, tl_cons, s0_cons, st_cons, fl_nx, fl_rt, fl_bk, fl_ct, rt_rt, rt_nx, dB_bl, dI_int, sq_tup, sq_lst, at_tup, al_nil, al_cons, nm_set, isi_tup_t, nh_int, nh_tup, nh_lst, nh_bl, nh_all_nil, nh_all_cons, ln_nil, ln_cons, lc_nil, lc_cons, lk_nil, lk_cons, fo_nil, fo_cons, all_l, any_l, allB_nil, anyB_nil, allB_cons, anyB_cons, ix_t0, ix_l0, ix_l1, ix_t1, ix_t2, ix_t3, pSl, pNo, pPart, pEnum, skip_nx, seq_k, fclk_eq, fck_eq, len_t, len_l, eq_i, ge_i, le_i, lt_i, gt_i, add_i, sub_i, int_i, chl, chle, id_eq, ble_ok, Nat.reduceAdd, List.length_cons, List.length_nil, decide_true, decide_false, Bool.not_true, Bool.not_false, Nat.zero_add, Nat.reduceLeDiff, Int.cast_ofNat_Int, g0, s0, g1, s1, g2, s2, g3, s3, g4, s4, g5, s5, g6, s6, g7, s7, g8, s8, g9, s9, g10, s10, g11, s11, g12, s12, g13, s13, g14, s14, g15, s15, g16, s16, g17, s17, g18, s18, g19, s19, g20, s20, g21, s21, g22, s22, g23, s23, g24, s24, g25, s25, g26, s26, g27, s27, g28, s28, g29, s29, g30, s30, g31, s31, g32, s32, g33, s33, g34, s34, g35, s35, g36, s36, g37, s37, g38, s38, g39, s39, hr.1.1]
    show R.all (opK (oCatL (.lst Th) (.lst [r, tZ M])) _) _
    rw [cat_l Th [r, tZ M] (by show Th.length + 2 ≤ 1000; omega), opK_some]
    exact ⟨rfl, r, hr, rfl⟩
  · unfold lConsK
    refine all_bk (R.all_mono ?_ c)
    rintro ⟨r, s'⟩ ⟨e, hr⟩
    simp only at e
    subst e
    exact ⟨rfl, r, hr, rfl⟩
noncomputable abbrev bd17 : MS := (sSqK (sAsK (aNm s14) (mCallK F11 (lConsK (liE g1) (lConsK m17 (liL pNil))))) (sSqK (sAsK (aNm s15) o15) (sSqK (sIfK (tValK (m2K (oEqFK (fun b => !b)) (mCallP F3 (pCons g3 (pCons g14 pNil))) (liE w15))) (sSqK (sRetP (pK (.bl false))) sSkip) sSkip) sSkip)))
theorem bd17_all {n : Int} {M : List Int} {Th : List D} (h1 : 1 ≤ n) (h2 : n ≤ 12) (hM : M.length < 60) (hl : Th.length ≤ 100) (hT : ∀ t ∈ Th, T3 n t) {x2 x4 x5 x6 x7 x9 x11 x12 x13 x14 x15 x16 x17 : Option D} : (bd17 (lS n x2 x4 x5 x6 x7 (some (tZ M)) x9 (some (.lst Th)) x11 x12 x13 x14 x15 x16 x17)).all fun fl => ∃ st2, (fl = .nx st2 ∨ fl = .ct st2) ∧ ∃ y11 y14 y15, st2 = lS n x2 x4 x5 x6 x7 (some (tZ M)) x9 (some (.lst Th)) y11 x12 x13 y14 y15 x16 x17 := by
  unfold bd17
  refine all_sq (asK_callK (Pm := T3 n) ?_ fun t ht => ?_)
  · unfold lConsK
    refine all_bk ?_
    refine all_bk ?_
    refine all_bk (R.all_mono ?_ (m17_all (n := n) (M := M) hl))
    rintro ⟨l, s'⟩ ⟨e, r, hr, e2⟩
    simp only at e e2
    subst e e2
    refine ⟨rfl, ?_⟩
    refine R.all_mono (fun d hd => ?_) (some_all (Th ++ [r, tZ M]) (by rw [List.length_append]; show 0 < Th.length + 2; omega) (by rw [List.length_append]; show Th.length + 2 < 1000; omega))
    rcases List.mem_append.mp hd with q | q
    · exact hT d q
    · simp only [List.mem_cons, List.not_mem_nil, or_false] at q
      rcases q with rfl | rfl
      · exact T3_deep h1 h2 hr
      · exact T3_ints h1 h2 hM
  · refine ⟨_, rfl, _, rfl, ?_⟩
    obtain ⟨b1, b, e1, e2, e3⟩ := ht x2 x4 x5 x6 x7 (some (tZ M)) x9 (some (.lst Th)) x11 x12 x13 x15 x16 x17
    have s1 : ∀ K : MS, sSqK (sAsK (aNm s15) o15) K (lS n x2 x4 x5 x6 x7 (some (tZ M)) x9 (some (.lst Th)) x11 x12 x13 (some t) x15 x16 x17) = K (lS n x2 x4 x5 x6 x7 (some (tZ M)) x9 (some (.lst Th)) x11 x12 x13 (some t) (some (.bl b1)) x16 x17) := fun K => sq_nx (asK_ok e1 rfl)
    have s2 : ∀ K : MS, sSqK (sIfK (tValK (m2K (oEqFK (fun b => !b)) (mCallP F3 (pCons g3 (pCons g14 pNil))) (liE w15))) (sSqK (sRetP (pK (.bl false))) sSkip) sSkip) K (lS n x2 x4 x5 x6 x7 (some (tZ M)) x9 (some (.lst Th)) x11 x12 x13 (some t) (some (.bl b1)) x16 x17) = K (lS n x2 x4 x5 x6 x7 (some (tZ M)) x9 (some (.lst Th)) x11 x12 x13 (some t) (some (.bl b1)) x16 x17) := fun K => ifK_ok (callP_ok (xs := [.int n, t]) rfl e2) (liE_ok e3) (eq_same rfl)
    show R.all (sSqK (sAsK (aNm s15) o15) _ (lS n x2 x4 x5 x6 x7 (some (tZ M)) x9 (some (.lst Th)) x11 x12 x13 (some t) x15 x16 x17)) _
    rw [s1, s2]
    exact ⟨_, .inl rfl, x11, some t, some (.bl b1), rfl⟩
theorem r4' (st : AS) : pR1 (pK (.int 4)) st = some [.int 0, .int 1, .int 2, .int 3] := rfl
theorem k17_ok {n : Int} {M : List Int} {Th : List D} (h1 : 1 ≤ n) (h2 : n ≤ 12) (hM : M.length < 60) (hl : Th.length ≤ 100) (hT : ∀ t ∈ Th, T3 n t) {x2 x4 x5 x6 x7 x9 x11 x12 x13 x14 x15 x16 x17 : Option D} : (kB_17 (lS n x2 x4 x5 x6 x7 (some (tZ M)) x9 (some (.lst Th)) x11 x12 x13 x14 x15 x16 x17)).all fun fl => okFl 18 fl = true := by
  unfold kB_17
  refine all_sq ?_
  unfold sForP
  rw [r4', opK_some]
  refine R.all_mono ?_ (forK_all (I := fun st => ∃ y11 y14 y15, st = lS n x2 x4 x5 x6 x7 (some (tZ M)) x9 (some (.lst Th)) y11 x12 x13 y14 y15 x16 x17) _ _ (fun d _ st hst => ?_) ⟨x11, x14, x15, rfl⟩)
  · rintro fl ⟨st2, rfl, y11, y14, y15, rfl⟩
    exact ⟨_, rfl, rfl⟩
  · obtain ⟨y11, y14, y15, rfl⟩ := hst
    refine ⟨lS n x2 x4 x5 x6 x7 (some (tZ M)) x9 (some (.lst Th)) (some d) x12 x13 y14 y15 x16 x17, rfl, ?_⟩
    exact bd17_all h1 h2 hM hl hT
/-! the things -/
theorem addX (h : List Int) (x : D) (hl : h.length ≤ 1000) : oAddK (tZ h) (.tup [x]) = some (.tup (h.map D.int ++ [x])) := by
  rw [oAddK_eq]
  show (if lenOk ((h.map D.int).length + 1) = true then some (D.tup (h.map D.int ++ [x])) else none) = _
  have l : lenOk ((h.map D.int).length + 1) = true := Nat.ble_eq_true_of_le (by rw [List.length_map]; omega)
  rw [if_pos l]
abbrev Ths (n : Int) (A : List Int) (x : D) : List D := [tZ A, (if 1 < A.length then tZ A.reverse else .tup []), .lst (A.map D.int), .tup [], .tup (A.map D.int ++ [x]), .tup [x], tZ (A ++ A.take 1), .non]
def SgP (n : Int) (x : D) : Prop := x = .int n ∨ x = .int (-1) ∨ x = .bl true ∨ x = .non ∨ x = .str "0"
theorem sg_it {n : Int} {x : D} (h : SgP n x) : IT n x ∧ nHK x = true := by
  rcases h with rfl | rfl | rfl | rfl | rfl
  · exact ⟨it_int _ _, rfl⟩
  · exact ⟨it_int _ _, rfl⟩
  · exact ⟨it_tr n, rfl⟩
  · exact ⟨it_no rfl, rfl⟩
  · exact ⟨it_no rfl, rfl⟩
theorem ths_ok {n : Int} {A : List Int} {x : D} (L : Lot n A) (h : SgP n x) : ∀ t ∈ Ths n A x, T3 n t := by
  have h1 := L.n1
  have h2 := L.n2
  have hA := len12 L
  have hx := (sg_it h).1
  intro t ht
  simp only [List.mem_cons, List.not_mem_nil, or_false] at ht
  rcases ht with rfl | rfl | rfl | rfl | rfl | rfl | rfl | rfl
  · exact T3_ints h1 h2 (by omega)
  · split
    · exact T3_ints h1 h2 (by rw [List.length_reverse]; omega)
    · exact T3_tup h1 h2 (by simp) fun y hy => nomatch hy
  · exact T3_no h1 h2 rfl
  · exact T3_tup h1 h2 (by simp) fun y hy => nomatch hy
  · refine T3_tup h1 h2 (by rw [List.length_append, List.length_map]; show A.length + 1 < 60; omega) fun y hy => ?_
    rcases List.mem_append.mp hy with q | q
    · obtain ⟨i, _, rfl⟩ := List.mem_map.mp q
      exact it_int n i
    · cases List.mem_singleton.mp q
      exact hx
  · exact T3_tup h1 h2 (by simp) fun y hy => by cases List.mem_singleton.mp hy; exact hx
  · exact T3_ints h1 h2 (by rw [List.length_append, List.length_take]; omega)
  · exact T3_no h1 h2 rfl
theorem k15_ok {n : Int} {A M : List Int} (L : Lot n A) (hM : M.length < 60) {x2 x4 x5 x6 x7 x9 x10 x11 x13 x14 x15 x16 x17 : Option D} : (kB_15 (lS n x2 x4 x5 x6 x7 (some (tZ M)) x9 x10 x11 (some (tZ A)) x13 x14 x15 x16 x17)).all fun fl => okFl 18 fl = true := by
  have h1 := L.n1
  have h2 := L.n2
  have hA := len12 L
  have s5 := some_all [.int n, .int (-1), .bl true, .non, .str "0"] (by simp) (by simp)
  unfold kB_15
  refine all_sq (asK_call (xs := [.hnd, .lst [.int n, .int (-1), .bl true, .non, .str "0"]]) (by rfl) s5 fun x hx => ?_)
  have hx : SgP n x := by
    simp only [List.mem_cons, List.not_mem_nil, or_false] at hx
    exact hx
  refine ⟨_, rfl, _, rfl, ?_⟩
  show R.all (kB_16 (lS n x2 x4 x5 x6 x7 (some (tZ M)) (some x) x10 x11 (some (tZ A)) x13 x14 x15 x16 x17)) _
  have nx := (sg_it hx).2
  have e : (pLst (pCons g12 (pCons (pIf (pT (p2 oGtK (p1 oLenK g12) (pK (.int 1)))) (p1 (oRev false) g12) (pTup pNil)) (pCons (p1 oList g12) (pCons (pTup pNil) (pCons (p2 oAddK g12 (pTup (pCons g9 pNil))) (pCons (pTup (pCons g9 pNil)) (pCons (p2 oAddK g12 (pSl false g12 pNo (pPart (pK (.int 1))))) (pCons (pK .non) pNil))))))))) (lS n x2 x4 x5 x6 x7 (some (tZ M)) (some x) x10 x11 (some (tZ A)) x13 x14 x15 x16 x17) = some (.lst (Ths n A x)) := by
    have sl : slD false (tZ A) none (some 1) = some (tZ (A.take 1)) := by
      show some (D.tup (cutD (A.map D.int) none (some ((1 : Nat) : Int)))) = _
      rw [cut_take, ← List.map_take]
    have a1 := addX A x (by omega)
    have a2 := addZZ A (A.take 1) (by omega) (by rw [List.length_take]; omega)
    have rv : oRev false (tZ A) = some (tZ A.reverse) := by
      show some (D.tup (A.map D.int).reverse) = _
      rw [← List.map_reverse]
    have ol : oList (tZ A) = some (.lst (A.map D.int)) := rfl
    by_cases c : 1 < A.length
    · have d1 : decide ((1 : Int) < (A.length : Nat)) = true := decide_eq_true (by omega)
      simp only [runK, sSqK, sIfK, sIfP, tOrK, tAndK, tNotK, tValK, liE, liT, liL, liI, liO, pNotT, pT, p1, p2, pK, pCons, pNil, pYes, pSeq, pAndE, pOrE, pNotE, pAndT, pOrT, pChain, pIf, pTup, pLst, pLc, pDic, pR1, pR2, sRetP, sRetK, sAsP, sAsK, sAoP, sAoK, sDrpK, sPar2K, sPar3K, sForP, sForK, sAppC, mAndK, mOrK, mNotK, mIfK, lConsK, mTupK, mLstK, mMK, m1K, m2K, mLcK, mCallP, mCallK, in_nil, in_cons, re_zero, re_succ, bk_ok, bk_dr, opK_some, opK_none, ooK_some, ooK_none, bK_t, bK_f, hd_cons, tl_cons, s0_cons, st_cons, fl_nx, fl_rt, fl_bk, fl_ct, rt_rt, rt_nx, dB_bl, dI_int, sq_tup, sq_lst, at_tup, al_nil, al_cons, nm_set, isi_tup_t, nh_int, nh_tup, nh_lst, nh_bl, nh_all_nil, nh_all_cons, ln_nil, ln_cons, lc_nil, lc_cons, lk_nil, lk_cons, fo_nil, fo_cons, all_l, any_l, allB_nil, anyB_nil, allB_cons, anyB_cons, ix_t0, ix_l0, ix_l1, ix_t1, ix_t2, ix_t3, pSl, pNo, pPart, pEnum, skip_nx, seq_k, fclk_eq, fck_eq, len_t, len_l, eq_i, ge_i, le_i, lt_i, gt_i, add_i, sub_i, int_i, chl, chle, id_eq, ble_ok, Nat.reduceAdd, List.length_cons, List.length_nil, decide_true, decide_false, Bool.not_true, Bool.not_false, Nat.zero_add, Nat.reduceLeDiff, Int.cast_ofNat_Int, g0, s0, g1, s1, g2, s2, g3, s3, g4, s4, g5, s5, g6, s6, g7, s7, g8, s8, g9, s9, g10, s10, g11, s11, g12, s12, g13, s13, g14, s14, g15, s15, g16, s16, g17, s17, g18, s18, g19, s19, g20, s20, g21, s21, g22, s22, g23, s23, g24, s24, g25, s25, g26, s26, g27, s27, g28, s28, g29, s29, g30, s30, g31, s31, g32, s32, g33, s33, g34, s34, g35, s35, g36, s36, g37, s37, g38, s38, g39, s39, nx, sl, a1, a2, rv, ol, List.length_map, d1, show nHK .non = true from rfl]
      rw [show Ths n A x = [tZ A, (if 1 < A.length then tZ A.reverse else .tup []), .lst (A.map D.int), .tup [], .tup (A.map D.int ++ [x]), .tup [x], tZ (A ++ A.take 1), .non] from rfl, if_pos c]
    · have d1 : decide ((1 : Int) < (A.length : Nat)) = false := decide_eq_false (by omega)
      simp only [runK, sSqK, sIfK, sIfP, tOrK, tAndK, tNotK, tValK, liE, liT, liL, liI, liO, pNotT, pT, p1, p2, pK, pCons, pNil, pYes, pSeq, pAndE, pOrE, pNotE, pAndT, pOrT, pChain, pIf, pTup, pLst, pLc, pDic, pR1, pR2, sRetP, sRetK, sAsP, sAsK, sAoP, sAoK, sDrpK, sPar2K, sPar3K, sForP, sForK, sAppC, mAndK, mOrK, mNotK, mIfK, lConsK, mTupK, mLstK, mMK, m1K, m2K, mLcK, mCallP, mCallK, in_nil, in_cons, re_zero, re_succ, bk_ok, bk_dr, opK_some, opK_none, ooK_some, ooK_none, bK_t, bK_f, hd_cons, tl_cons, s0_cons, st_cons, fl_nx, fl_rt, fl_bk, fl_ct, rt_rt, rt_nx, dB_bl, dI_int, sq_tup, sq_lst, at_tup, al_nil, al_cons, nm_set, isi_tup_t, nh_int, nh_tup, nh_lst, nh_bl, nh_all_nil, nh_all_cons, ln_nil, ln_cons, lc_nil, lc_cons, lk_nil, lk_cons, fo_nil, fo_cons, all_l, any_l, allB_nil, anyB_nil, allB_cons, anyB_cons, ix_t0, ix_l0, ix_l1, ix_t1, ix_t2, ix_t3, pSl, pNo, pPart, pEnum, skip_nx, seq_k, fclk_eq, fck_eq, len_t, len_l, eq_i, ge_i, le_i, lt_i, gt_i, add_i, sub_i, int_i, chl, chle, id_eq, ble_ok, Nat.reduceAdd, List.length_cons, List.length_nil, decide_true, decide_false, Bool.not_true, Bool.not_false, Nat.zero_add, Nat.reduceLeDiff, Int.cast_ofNat_Int, g0, s0, g1, s1, g2, s2, g3, s3, g4, s4, g5, s5, g6, s6, g7, s7, g8, s8, g9, s9, g10, s10, g11, s11, g12, s12, g13, s13, g14, s14, g15, s15, g16, s16, g17, s17, g18, s18, g19, s19, g20, s20, g21, s21, g22, s22, g23, s23, g24, s24, g25, s25, g26, s26, g27, s27, g28, s28, g29, s29, g30, s30, g31, s31, g32, s32, g33, s33, g34, s34, g35, s35, g36, s36, g37, s37, g38, s38, g39, s39, nx, sl, a1, a2, rv, ol, List.length_map, d1, show nHK .non = true from rfl]
      rw [show Ths n A x = [tZ A, (if 1 < A.length then tZ A.reverse else .tup []), .lst (A.map D.int), .tup [], .tup (A.map D.int ++ [x]), .tup [x], tZ (A ++ A.take 1), .non] from rfl, if_neg c]
  unfold kB_16
  rw [sq_nx (asP_ok (st2 := lS n x2 x4 x5 x6 x7 (some (tZ M)) (some x) (some (.lst (Ths n A x))) x11 (some (tZ A)) x13 x14 x15 x16 x17) e rfl)]
  exact k17_ok h1 h2 hM (by show 8 ≤ 100; omega) (ths_ok L hx)
end EV
set_option maxHeartbeats 0
namespace EV
open PySem PySem.Spec PyProof.Rows L2 RZ
/-! the turn -/
theorem ifN_ok {m : ME} {st : AS} {a b : MS} (h : m st = .ok (.bl true, st)) : sSqK (sIfK (tNotK (tValK m)) a sSkip) b st = b st := by
  refine sq_nx ?_
  unfold sIfK tNotK tValK
  rw [h]
  rfl
theorem lst_l (xs : List D) : oList (.lst xs) = some (.lst xs) := rfl
theorem lst_t (xs : List D) : oList (.tup xs) = some (.lst xs) := rfl
theorem all_t {α : Type} (l : List α) : oAllK (.lst (l.map fun _ => D.bl true)) = some (.bl true) := by
  rw [all_all (fun _ => true), List.all_eq_true.mpr fun _ _ => rfl]
theorem dokT (l : List (List Int)) : dok 60 (.lst (l.map tupZ)) = true := dok_l (dok_m dok_tz l)
theorem due_all {n : Int} {A : List Int} (L : Lot n A) : ∀ B ∈ due n A, Lot n B ∧ fillsB n A B = true := fun B hB => ((due_mem L B).mp hB).2
theorem due_len {n : Int} {A : List Int} (L : Lot n A) : (due n A).length ≤ 2048 := by
  unfold due
  rw [sortR_len]
  have d0 : wt n [[0]] ≤ 2048 := by
    show 2 ^ dep n [0] + 0 ≤ 2048
    have : dep n [0] ≤ 11 := by
      unfold dep lastI
      have := L.n2
      show (n - 1 - 0).toNat ≤ 11
      omega
    have := Nat.pow_le_pow_right (show 0 < 2 by decide) this
    omega
  have : ∀ (k : Nat) (h : List Int), Lot n h → dep n h < k → (srch n A k h).length ≤ 2 ^ dep n h := by
    intro k
    induction k with
    | zero => intro h _ hk; omega
    | succ k ih =>
      intro h Lh hk
      show (if mxB (sumsL n A h) then (if mnB (sumsL n A h) then [h] else (kids n h).reverse.flatMap (srch n A k)) else []).length ≤ _
      have p1 : 1 ≤ 2 ^ dep n h := Nat.one_le_two_pow
      split
      · split
        · exact p1
        · have w := wt_kids Lh
          have : ∀ l : List (List Int), (∀ c ∈ l, c ∈ kids n h) → (l.flatMap (srch n A k)).length ≤ wt n l := by
            intro l
            induction l with
            | nil => intro _; exact Nat.zero_le _
            | cons c l ih2 =>
              intro hc
              obtain ⟨Lc, dc, _⟩ := kid_lot Lh (hc c (by simp))
              have := ih c Lc (by omega)
              have := ih2 fun d hd => hc d (by simp [hd])
              rw [List.flatMap_cons, List.length_append]
              show _ ≤ 2 ^ dep n c + wt n l
              omega
          have q := this (kids n h) fun c hc => hc
          have e : ((kids n h).reverse.flatMap (srch n A k)).length = ((kids n h).flatMap (srch n A k)).length := by
            have : ∀ l : List (List Int), (l.reverse.flatMap (srch n A k)).length = (l.flatMap (srch n A k)).length := by
              intro l
              induction l with
              | nil => rfl
              | cons c l ih3 =>
                rw [List.reverse_cons, List.flatMap_append, List.length_append, ih3, List.flatMap_cons, List.length_append, List.flatMap_cons, List.flatMap_nil, List.length_append, List.length_nil]
                omega
            exact this _
          omega
      · exact Nat.zero_le _
  show (srch n A (dep n [0] + 1) [0] ++ []).length ≤ 2048
  rw [List.append_nil]
  have := this (dep n [0] + 1) [0] (lot0 L.n1 L.n2) (by omega)
  have e : wt n [[0]] = 2 ^ dep n [0] := rfl
  omega
theorem k12_ok {n : Int} {A : List Int} (L : Lot n A) {x2 x4 x8 x9 x10 x11 x13 x14 x15 x16 x17 : Option D} {s : Int} : (kB_12 (lS n x2 x4 (some (.lst ((due n A).map tupZ))) (some (.lst ((stays n A).map D.int))) (some (.int s)) x8 x9 x10 x11 (some (tZ A)) x13 x14 x15 x16 x17)).all fun fl => okFl 18 fl = true := by
  have h1 := L.n1
  have h2 := L.n2
  have hA := len12 L
  have LM := L.moved s
  have e := pLc_of (A := aNm s17) (w := fun st => s17 none (id st)) (c := pYes) (e := (p2 oModK (p1 oInt (p2 oAddK g17 g7)) g3)) (st := lS n x2 x4 (some (.lst ((due n A).map tupZ))) (some (.lst ((stays n A).map D.int))) (some (.int s)) x8 x9 x10 x11 (some (tZ A)) x13 x14 x15 x16 x17) (s := pSeq g12) (g := D.int) (k := D.int) (t := sh n s) A rfl (fun a ha => ⟨lS n x2 x4 (some (.lst ((due n A).map tupZ))) (some (.lst ((stays n A).map D.int))) (some (.int s)) x8 x9 x10 x11 (some (tZ A)) x13 x14 x15 x16 (some (.int a)), rfl, rfl, by
    simp only [runK, sSqK, sIfK, sIfP, tOrK, tAndK, tNotK, tValK, liE, liT, liL, liI, liO, pNotT, pT, p1, p2, pK, pCons, pNil, pYes, pSeq, pAndE, pOrE, pNotE, pAndT, pOrT, pChain, pIf, pTup, pLst, pLc, pDic, pR1, pR2, sRetP, sRetK, sAsP, sAsK, sAoP, sAoK, sDrpK, sPar2K, sPar3K, sForP, sForK, sAppC, mAndK, mOrK, mNotK, mIfK, lConsK, mTupK, mLstK, mMK, m1K, m2K, mLcK, mCallP, mCallK, in_nil, in_cons, re_zero, re_succ, bk_ok, bk_dr, opK_some, opK_none, ooK_some, ooK_none, bK_t, bK_f, hd_cons, tl_cons, s0_cons, st_cons, fl_nx, fl_rt, fl_bk, fl_ct, rt_rt, rt_nx, dB_bl, dI_int, sq_tup, sq_lst, at_tup, al_nil, al_cons, nm_set, isi_tup_t, nh_int, nh_tup, nh_lst, nh_bl, nh_all_nil, nh_all_cons, ln_nil, ln_cons, lc_nil, lc_cons, lk_nil, lk_cons, fo_nil, fo_cons, all_l, any_l, allB_nil, anyB_nil, allB_cons, anyB_cons, ix_t0, ix_l0, ix_l1, ix_t1, ix_t2, ix_t3, pSl, pNo, pPart, pEnum, skip_nx, seq_k, fclk_eq, fck_eq, len_t, len_l, eq_i, ge_i, le_i, lt_i, gt_i, add_i, sub_i, int_i, chl, chle, id_eq, ble_ok, Nat.reduceAdd, List.length_cons, List.length_nil, decide_true, decide_false, Bool.not_true, Bool.not_false, Nat.zero_add, Nat.reduceLeDiff, Int.cast_ofNat_Int, g0, s0, g1, s1, g2, s2, g3, s3, g4, s4, g5, s5, g6, s6, g7, s7, g8, s8, g9, s9, g10, s10, g11, s11, g12, s12, g13, s13, g14, s14, g15, s15, g16, s16, g17, s17, g18, s18, g19, s19, g20, s20, g21, s21, g22, s22, g23, s23, g24, s24, g25, s25, g26, s26, g27, s27, g28, s28, g29, s29, g30, s30, g31, s31, g32, s32, g33, s33, g34, s34, g35, s35, g36, s36, g37, s37, g38, s38, g39, s39, mod_i (show n ≠ 0 by omega), sh], rfl⟩) (by omega)
  unfold kB_12
  rw [sq_nx (asP_ok (st2 := lS n x2 x4 (some (.lst ((due n A).map tupZ))) (some (.lst ((stays n A).map D.int))) (some (.int s)) (some (tZ (moved n s A))) x9 x10 x11 (some (tZ A)) x13 x14 x15 x16 x17) (p1_of (p1_of e (sortA A n s)) (tup_l _)) rfl)]
  unfold kB_13
  have f9 := t9 LM
  rw [stays_moved L s] at f9
  rw [ifK_ok (m1_ok (callP_ok (xs := [.int n, tZ (moved n s A)]) rfl f9) (e := .lst ((stays n A).map D.int)) (lst_t _)) (liE_ok (d := .lst ((stays n A).map D.int)) rfl) (nei _)]
  unfold kB_14
  have lc := lcK_mapg (A := aNm s16) (st := lS n x2 x4 (some (.lst ((due n A).map tupZ))) (some (.lst ((stays n A).map D.int))) (some (.int s)) (some (tZ (moved n s A))) x9 x10 x11 (some (tZ A)) x13 x14 x15 none x17) (c := liT pYes) (e := (mCallP F6 (pCons g3 (pCons g8 (pCons g16 pNil))))) (g := tupZ) (h := fun _ => .bl true) (due n A) 0 (fun B hB => ⟨lS n x2 x4 (some (.lst ((due n A).map tupZ))) (some (.lst ((stays n A).map D.int))) (some (.int s)) (some (tZ (moved n s A))) x9 x10 x11 (some (tZ A)) x13 x14 x15 (some (tZ B)) x17, rfl, ⟨_, rfl⟩, ⟨_, callP_ok (xs := [.int n, tZ (moved n s A), tZ B]) rfl (by
    obtain ⟨LB, fB⟩ := due_all L B hB
    rw [t6 LM LB, fills_moved L s fB])⟩, rfl⟩) (by have := due_len L; omega)
  rw [ifN_ok (m1_ok (d := .lst ((due n A).map fun _ => .bl true)) (e := .bl true) (by
    unfold mLcK
    show bindK (lcK (aNm s16) (liT pYes) _ (lS n x2 x4 (some (.lst ((due n A).map tupZ))) (some (.lst ((stays n A).map D.int))) (some (.int s)) (some (tZ (moved n s A))) x9 x10 x11 (some (tZ A)) x13 x14 x15 none x17) ((due n A).map tupZ) 0) _ = _
    rw [lc]
    rfl) (all_t _))]
  exact k15_ok L (by have := len12 LM; omega)
theorem k9_ok {n : Int} {A : List Int} (L : Lot n A) {x2 x4 x6 x7 x8 x9 x10 x11 x13 x14 x15 x16 x17 : Option D} : (kB_9 (lS n x2 x4 (some (.lst ((due n A).map tupZ))) x6 x7 x8 x9 x10 x11 (some (tZ A)) x13 x14 x15 x16 x17)).all fun fl => okFl 18 fl = true := by
  have h1 := L.n1
  have h2 := L.n2
  have hA := len12 L
  have inner : ∀ s : Int, (pT (p2 (oEqFK id) (p1 oSortK (pLc (pSeq g12) (aNm s17) (fun st => s17 none (id st)) pYes (p2 oModK (p1 oInt (p2 oAddK g17 g7)) g3))) (p1 oList g12))) (lS n x2 x4 (some (.lst ((due n A).map tupZ))) x6 (some (.int s)) x8 x9 x10 x11 (some (tZ A)) x13 x14 x15 x16 x17) = some (stayB n A s) := by
    intro s
    have e := pLc_of (A := aNm s17) (w := fun st => s17 none (id st)) (c := pYes) (e := (p2 oModK (p1 oInt (p2 oAddK g17 g7)) g3)) (st := lS n x2 x4 (some (.lst ((due n A).map tupZ))) x6 (some (.int s)) x8 x9 x10 x11 (some (tZ A)) x13 x14 x15 x16 x17) (s := pSeq g12) (g := D.int) (k := D.int) (t := sh n s) A rfl (fun a ha => ⟨lS n x2 x4 (some (.lst ((due n A).map tupZ))) x6 (some (.int s)) x8 x9 x10 x11 (some (tZ A)) x13 x14 x15 x16 (some (.int a)), rfl, rfl, by
      simp only [runK, sSqK, sIfK, sIfP, tOrK, tAndK, tNotK, tValK, liE, liT, liL, liI, liO, pNotT, pT, p1, p2, pK, pCons, pNil, pYes, pSeq, pAndE, pOrE, pNotE, pAndT, pOrT, pChain, pIf, pTup, pLst, pLc, pDic, pR1, pR2, sRetP, sRetK, sAsP, sAsK, sAoP, sAoK, sDrpK, sPar2K, sPar3K, sForP, sForK, sAppC, mAndK, mOrK, mNotK, mIfK, lConsK, mTupK, mLstK, mMK, m1K, m2K, mLcK, mCallP, mCallK, in_nil, in_cons, re_zero, re_succ, bk_ok, bk_dr, opK_some, opK_none, ooK_some, ooK_none, bK_t, bK_f, hd_cons, tl_cons, s0_cons, st_cons, fl_nx, fl_rt, fl_bk, fl_ct, rt_rt, rt_nx, dB_bl, dI_int, sq_tup, sq_lst, at_tup, al_nil, al_cons, nm_set, isi_tup_t, nh_int, nh_tup, nh_lst, nh_bl, nh_all_nil, nh_all_cons, ln_nil, ln_cons, lc_nil, lc_cons, lk_nil, lk_cons, fo_nil, fo_cons, all_l, any_l, allB_nil, anyB_nil, allB_cons, anyB_cons, ix_t0, ix_l0, ix_l1, ix_t1, ix_t2, ix_t3, pSl, pNo, pPart, pEnum, skip_nx, seq_k, fclk_eq, fck_eq, len_t, len_l, eq_i, ge_i, le_i, lt_i, gt_i, add_i, sub_i, int_i, chl, chle, id_eq, ble_ok, Nat.reduceAdd, List.length_cons, List.length_nil, decide_true, decide_false, Bool.not_true, Bool.not_false, Nat.zero_add, Nat.reduceLeDiff, Int.cast_ofNat_Int, g0, s0, g1, s1, g2, s2, g3, s3, g4, s4, g5, s5, g6, s6, g7, s7, g8, s8, g9, s9, g10, s10, g11, s11, g12, s12, g13, s13, g14, s14, g15, s15, g16, s16, g17, s17, g18, s18, g19, s19, g20, s20, g21, s21, g22, s22, g23, s23, g24, s24, g25, s25, g26, s26, g27, s27, g28, s28, g29, s29, g30, s30, g31, s31, g32, s32, g33, s33, g34, s34, g35, s35, g36, s36, g37, s37, g38, s38, g39, s39, mod_i (show n ≠ 0 by omega), sh], rfl⟩) (by omega)
    exact pT_of (p2_of (e := .lst (A.map D.int)) (p1_of e (sortA A n s)) rfl (eqLZ id _ _))
  have lc := lcP_filterg (A := aNm s7) (st := lS n x2 x4 (some (.lst ((due n A).map tupZ))) x6 none x8 x9 x10 x11 (some (tZ A)) x13 x14 x15 x16 x17) (c := (pT (p2 (oEqFK id) (p1 oSortK (pLc (pSeq g12) (aNm s17) (fun st => s17 none (id st)) pYes (p2 oModK (p1 oInt (p2 oAddK g17 g7)) g3))) (p1 oList g12)))) (e := g7) (g := D.int) (h := D.int) (f := stayB n A) (ivl 0 n.toNat) 0 (fun s hs => ⟨lS n x2 x4 (some (.lst ((due n A).map tupZ))) x6 (some (.int s)) x8 x9 x10 x11 (some (tZ A)) x13 x14 x15 x16 x17, rfl, inner s, rfl, rfl⟩) (by rw [ivl_len]; omega)
  have e : (pLc (pR1 g3) (aNm s7) (fun st => s7 none (id st)) (pT (p2 (oEqFK id) (p1 oSortK (pLc (pSeq g12) (aNm s17) (fun st => s17 none (id st)) pYes (p2 oModK (p1 oInt (p2 oAddK g17 g7)) g3))) (p1 oList g12))) g7) (lS n x2 x4 (some (.lst ((due n A).map tupZ))) x6 x7 x8 x9 x10 x11 (some (tZ A)) x13 x14 x15 x16 x17) = some (.lst ((stays n A).map D.int)) := by
    generalize (pT (p2 (oEqFK id) (p1 oSortK (pLc (pSeq g12) (aNm s17) (fun st => s17 none (id st)) pYes (p2 oModK (p1 oInt (p2 oAddK g17 g7)) g3))) (p1 oList g12))) = C at *
    unfold pLc
    have s : (pR1 g3) (lS n x2 x4 (some (.lst ((due n A).map tupZ))) x6 x7 x8 x9 x10 x11 (some (tZ A)) x13 x14 x15 x16 x17) = some ((ivl 0 n.toNat).map D.int) := by
      simp only [runK, sSqK, sIfK, sIfP, tOrK, tAndK, tNotK, tValK, liE, liT, liL, liI, liO, pNotT, pT, p1, p2, pK, pCons, pNil, pYes, pSeq, pAndE, pOrE, pNotE, pAndT, pOrT, pChain, pIf, pTup, pLst, pLc, pDic, pR1, pR2, sRetP, sRetK, sAsP, sAsK, sAoP, sAoK, sDrpK, sPar2K, sPar3K, sForP, sForK, sAppC, mAndK, mOrK, mNotK, mIfK, lConsK, mTupK, mLstK, mMK, m1K, m2K, mLcK, mCallP, mCallK, in_nil, in_cons, re_zero, re_succ, bk_ok, bk_dr, opK_some, opK_none, ooK_some, ooK_none, bK_t, bK_f, hd_cons, tl_cons, s0_cons, st_cons, fl_nx, fl_rt, fl_bk, fl_ct, rt_rt, rt_nx, dB_bl, dI_int, sq_tup, sq_lst, at_tup, al_nil, al_cons, nm_set, isi_tup_t, nh_int, nh_tup, nh_lst, nh_bl, nh_all_nil, nh_all_cons, ln_nil, ln_cons, lc_nil, lc_cons, lk_nil, lk_cons, fo_nil, fo_cons, all_l, any_l, allB_nil, anyB_nil, allB_cons, anyB_cons, ix_t0, ix_l0, ix_l1, ix_t1, ix_t2, ix_t3, pSl, pNo, pPart, pEnum, skip_nx, seq_k, fclk_eq, fck_eq, len_t, len_l, eq_i, ge_i, le_i, lt_i, gt_i, add_i, sub_i, int_i, chl, chle, id_eq, ble_ok, Nat.reduceAdd, List.length_cons, List.length_nil, decide_true, decide_false, Bool.not_true, Bool.not_false, Nat.zero_add, Nat.reduceLeDiff, Int.cast_ofNat_Int, g0, s0, g1, s1, g2, s2, g3, s3, g4, s4, g5, s5, g6, s6, g7, s7, g8, s8, g9, s9, g10, s10, g11, s11, g12, s12, g13, s13, g14, s14, g15, s15, g16, s16, g17, s17, g18, s18, g19, s19, g20, s20, g21, s21, g22, s22, g23, s23, g24, s24, g25, s25, g26, s26, g27, s27, g28, s28, g29, s29, g30, s30, g31, s31, g32, s32, g33, s33, g34, s34, g35, s35, g36, s36, g37, s37, g38, s38, g39, s39, fits_n h1 h2, rngK_ivl]
    rw [s, ooK_some]
    show ooK (lcP (aNm s7) C g7 (lS n x2 x4 (some (.lst ((due n A).map tupZ))) x6 none x8 x9 x10 x11 (some (tZ A)) x13 x14 x15 x16 x17) ((ivl 0 n.toNat).map D.int) 0) _ = _
    rw [lc]
    rfl
  unfold kB_9
  rw [sq_nx (asP_ok (st2 := lS n x2 x4 (some (.lst ((due n A).map tupZ))) (some (.lst ((stays n A).map D.int))) x7 x8 x9 x10 x11 (some (tZ A)) x13 x14 x15 x16 x17) e rfl)]
  unfold kB_10
  rw [ifK_ok (m1_ok (callP_ok (xs := [.int n, tZ A]) rfl (t9 L)) (e := .lst ((stays n A).map D.int)) (lst_t _)) (liE_ok (d := .lst ((stays n A).map D.int)) rfl) (nei _)]
  unfold kB_11
  refine all_sq (asK_call (xs := [.hnd, .int n]) (Pm := fun r => ∃ d : Nat, r = .int (d : Int)) rfl (by
    rw [dr10 (by omega) (by omega)]
    intro d hd
    exact ⟨d, rfl⟩) fun r hr => ?_)
  obtain ⟨d, rfl⟩ := hr
  refine ⟨_, rfl, _, rfl, ?_⟩
  exact k12_ok L
theorem k2_ok {n : Int} {A B : List Int} (L : Lot n A) (LB : Lot n B) {x2 x4 x5 x6 x7 x8 x9 x10 x11 x14 x15 x16 x17 : Option D} : (kB_2 (lS n x2 x4 x5 x6 x7 x8 x9 x10 x11 (some (tZ A)) (some (tZ B)) x14 x15 x16 x17)).all fun fl => okFl 18 fl = true := by
  have h1 := L.n1
  have h2 := L.n2
  have hA := len12 L
  unfold kB_2
  rw [sq_nx (asK_ok (st2 := lS n x2 (some (.lst ((sumsL n A B).map D.int))) x5 x6 x7 x8 x9 x10 x11 (some (tZ A)) (some (tZ B)) x14 x15 x16 x17) (callP_ok (xs := [.int n, tZ A, tZ B]) rfl (t15 h1 h2 A B)) rfl)]
  unfold kB_3
  rw [ifK_ok (m1_ok (callP_ok (xs := [.int n, tZ A, tZ B]) rfl (t5 L LB)) (e := .lst ((sumsL n A B).map D.int)) (lst_t _)) (liE_ok (d := .lst ((sumsL n A B).map D.int)) rfl) (nei _)]
  unfold kB_4
  have q : (p2 (oEqFK id) g4 (p2 oRepLK (pLst (pCons (pK (.int 1)) pNil)) g3)) (lS n x2 (some (.lst ((sumsL n A B).map D.int))) x5 x6 x7 x8 x9 x10 x11 (some (tZ A)) (some (tZ B)) x14 x15 x16 x17) = some (.bl (fillsB n A B)) := p2_of (d := .lst ((sumsL n A B).map D.int)) rfl (p2_of (d := .lst [.int 1]) rfl rfl (repL h1 h2 1)) (eqLZ id _ _)
  rw [ifK_ok (callP_ok (xs := [.int n, tZ A, tZ B]) rfl (t6 L LB)) (liE_ok q) (eq_same rfl)]
  unfold kB_5
  rw [sq_nx (asK_ok (st2 := lS n x2 (some (.lst ((sumsL n A B).map D.int))) (some (.lst ((due n A).map tupZ))) x6 x7 x8 x9 x10 x11 (some (tZ A)) (some (tZ B)) x14 x15 x16 x17) (callP_ok (xs := [.int n, tZ A]) rfl (tt16 L)) rfl)]
  unfold kB_6
  rw [ifK_ok (m1_ok (callP_ok (xs := [.int n, tZ A]) rfl (t7 L)) (e := .lst ((due n A).map tupZ)) (lst_l _)) (liE_ok (d := .lst ((due n A).map tupZ)) rfl) (eq_same (dokT _))]
  unfold kB_7
  have q7 : (pIf (pT (p2 oGtK (p1 oLenK g5) (pK (.int 0)))) (p2 oIxK g5 (pK (.int 0))) (pK .non)) (lS n x2 (some (.lst ((sumsL n A B).map D.int))) (some (.lst ((due n A).map tupZ))) x6 x7 x8 x9 x10 x11 (some (tZ A)) (some (tZ B)) x14 x15 x16 x17) = some (match due n A with | [] => .non | B :: _ => tZ B) := by
    cases due n A with
    | nil => rfl
    | cons C r =>
      have d1 : decide ((0 : Int) < ((r.length + 1 : Nat) : Int)) = true := decide_eq_true (by omega)
      simp only [runK, sSqK, sIfK, sIfP, tOrK, tAndK, tNotK, tValK, liE, liT, liL, liI, liO, pNotT, pT, p1, p2, pK, pCons, pNil, pYes, pSeq, pAndE, pOrE, pNotE, pAndT, pOrT, pChain, pIf, pTup, pLst, pLc, pDic, pR1, pR2, sRetP, sRetK, sAsP, sAsK, sAoP, sAoK, sDrpK, sPar2K, sPar3K, sForP, sForK, sAppC, mAndK, mOrK, mNotK, mIfK, lConsK, mTupK, mLstK, mMK, m1K, m2K, mLcK, mCallP, mCallK, in_nil, in_cons, re_zero, re_succ, bk_ok, bk_dr, opK_some, opK_none, ooK_some, ooK_none, bK_t, bK_f, hd_cons, tl_cons, s0_cons, st_cons, fl_nx, fl_rt, fl_bk, fl_ct, rt_rt, rt_nx, dB_bl, dI_int, sq_tup, sq_lst, at_tup, al_nil, al_cons, nm_set, isi_tup_t, nh_int, nh_tup, nh_lst, nh_bl, nh_all_nil, nh_all_cons, ln_nil, ln_cons, lc_nil, lc_cons, lk_nil, lk_cons, fo_nil, fo_cons, all_l, any_l, allB_nil, anyB_nil, allB_cons, anyB_cons, ix_t0, ix_l0, ix_l1, ix_t1, ix_t2, ix_t3, pSl, pNo, pPart, pEnum, skip_nx, seq_k, fclk_eq, fck_eq, len_t, len_l, eq_i, ge_i, le_i, lt_i, gt_i, add_i, sub_i, int_i, chl, chle, id_eq, ble_ok, Nat.reduceAdd, List.length_cons, List.length_nil, decide_true, decide_false, Bool.not_true, Bool.not_false, Nat.zero_add, Nat.reduceLeDiff, Int.cast_ofNat_Int, g0, s0, g1, s1, g2, s2, g3, s3, g4, s4, g5, s5, g6, s6, g7, s7, g8, s8, g9, s9, g10, s10, g11, s11, g12, s12, g13, s13, g14, s14, g15, s15, g16, s16, g17, s17, g18, s18, g19, s19, g20, s20, g21, s21, g22, s22, g23, s23, g24, s24, g25, s25, g26, s26, g27, s27, g28, s28, g29, s29, g30, s30, g31, s31, g32, s32, g33, s33, g34, s34, g35, s35, g36, s36, g37, s37, g38, s38, g39, s39, List.map_cons, List.length_map, d1]
  rw [ifK_ok (callP_ok (xs := [.int n, tZ A]) rfl (t8 L)) (liE_ok q7) (by
    refine eq_same ?_
    cases due n A with
    | nil => rfl
    | cons C r => exact dokZ C)]
  unfold kB_8
  have lc := lcK_mapg (A := aNm s16) (st := lS n x2 (some (.lst ((sumsL n A B).map D.int))) (some (.lst ((due n A).map tupZ))) x6 x7 x8 x9 x10 x11 (some (tZ A)) (some (tZ B)) x14 x15 none x17) (c := liT pYes) (e := (mAndK (mCallP F6 (pCons g3 (pCons g16 (pCons g12 pNil)))) (liE (p2 (oEqFK id) (p2 oMulK (p1 oLenK g16) (p1 oLenK g12)) g3)))) (g := tupZ) (h := fun _ => .bl true) (due n A) 0 (fun C hC => ⟨lS n x2 (some (.lst ((sumsL n A B).map D.int))) (some (.lst ((due n A).map tupZ))) x6 x7 x8 x9 x10 x11 (some (tZ A)) (some (tZ B)) x14 x15 (some (tZ C)) x17, rfl, ⟨_, rfl⟩, ⟨_, by
    obtain ⟨LC, fC⟩ := due_all L C hC
    have hC := len12 LC
    have fl := fills_len h1 fC
    unfold mAndK
    rw [callP_ok (xs := [.int n, tZ C, tZ A]) rfl (t6 LC L), bk_ok, fills_comm h1, fC, dB_bl, opK_some, bK_t]
    refine liE_ok (p2_of (p2_of (p1_of (d := tZ C) rfl (len_t _)) (p1_of (d := tZ A) rfl (len_t _)) (mul_i (by omega) (by rw [List.length_map]; omega))) rfl ?_)
    rw [eq_i, List.length_map, List.length_map]
    have : ((C.length : Nat) : Int) * ((A.length : Nat) : Int) = n := by
      rw [← Int.natCast_mul, Nat.mul_comm, fl]
      omega
    rw [this, decide_eq_true rfl]
    rfl⟩, rfl⟩) (by have := due_len L; omega)
  rw [ifN_ok (m1_ok (d := .lst ((due n A).map fun _ => .bl true)) (e := .bl true) (by
    unfold mLcK
    show bindK (lcK (aNm s16) (liT pYes) _ (lS n x2 (some (.lst ((sumsL n A B).map D.int))) (some (.lst ((due n A).map tupZ))) x6 x7 x8 x9 x10 x11 (some (tZ A)) (some (tZ B)) x14 x15 none x17) ((due n A).map tupZ) 0) _ = _
    rw [lc]
    rfl) (all_t _))]
  exact k9_ok L
theorem turn_ok : (kB (st1 18)).all fun fl => okFl 18 fl = true := by
  have e : st1 18 = [none, some .hnd, none, none, none, none, none, none, none, none, none, none, none, none, none, none, none, none] := rfl
  rw [e]
  unfold kB
  refine all_sq ?_
  simp only [runK, sSqK, sIfK, sIfP, tOrK, tAndK, tNotK, tValK, liE, liT, liL, liI, liO, pNotT, pT, p1, p2, pK, pCons, pNil, pYes, pSeq, pAndE, pOrE, pNotE, pAndT, pOrT, pChain, pIf, pTup, pLst, pLc, pDic, pR1, pR2, sRetP, sRetK, sAsP, sAsK, sAoP, sAoK, sDrpK, sPar2K, sPar3K, sForP, sForK, sAppC, mAndK, mOrK, mNotK, mIfK, lConsK, mTupK, mLstK, mMK, m1K, m2K, mLcK, mCallP, mCallK, in_nil, in_cons, re_zero, re_succ, bk_ok, bk_dr, opK_some, opK_none, ooK_some, ooK_none, bK_t, bK_f, hd_cons, tl_cons, s0_cons, st_cons, fl_nx, fl_rt, fl_bk, fl_ct, rt_rt, rt_nx, dB_bl, dI_int, sq_tup, sq_lst, at_tup, al_nil, al_cons, nm_set, isi_tup_t, nh_int, nh_tup, nh_lst, nh_bl, nh_all_nil, nh_all_cons, ln_nil, ln_cons, lc_nil, lc_cons, lk_nil, lk_cons, fo_nil, fo_cons, all_l, any_l, allB_nil, anyB_nil, allB_cons, anyB_cons, ix_t0, ix_l0, ix_l1, ix_t1, ix_t2, ix_t3, pSl, pNo, pPart, pEnum, skip_nx, seq_k, fclk_eq, fck_eq, len_t, len_l, eq_i, ge_i, le_i, lt_i, gt_i, add_i, sub_i, int_i, chl, chle, id_eq, ble_ok, Nat.reduceAdd, List.length_cons, List.length_nil, decide_true, decide_false, Bool.not_true, Bool.not_false, Nat.zero_add, Nat.reduceLeDiff, Int.cast_ofNat_Int, g0, s0, g1, s1, g2, s2, g3, s3, g4, s4, g5, s5, g6, s6, g7, s7, g8, s8, g9, s9, g10, s10, g11, s11, g12, s12, g13, s13, g14, s14, g15, s15, g16, s16, g17, s17, g18, s18, g19, s19, g20, s20, g21, s21, g22, s22, g23, s23, g24, s24, g25, s25, g26, s26, g27, s27, g28, s28, g29, s29, g30, s30, g31, s31, g32, s32, g33, s33, g34, s34, g35, s35, g36, s36, g37, s37, g38, s38, g39, s39, dr10 (show (0 : Int) < 12 by decide) (by decide)]
  intro d hd
  have hd : d < 12 := hd
  refine ⟨_, rfl, ?_⟩
  have h1 : 1 ≤ 1 + (d : Int) := by omega
  have h2 : 1 + (d : Int) ≤ 12 := by omega
  generalize 1 + (d : Int) = n at *
  show R.all (kB_1 (lS n none none none none none none none none none none none none none none none)) _
  unfold kB_1
  have c : ∀ st : AS, g1 st = some .hnd → g3 st = some (.int n) → (mCallP F14 (pCons g1 (pCons g3 pNil)) st).all fun p => p.2 = st ∧ ∃ A, p.1 = tZ A ∧ Lot n A ∧ ∃ C, A = 0 :: C := fun st q1 q3 => callP_all (xs := [.hnd, .int n]) (by
    unfold pCons
    rw [q1, q3]
    rfl) (t14 h1 h2)
  have q := lcons_all (P1 := fun d => ∃ A, d = tZ A ∧ Lot n A ∧ ∃ C, A = 0 :: C) (P2 := fun xs => ∃ B, xs = [tZ B] ∧ Lot n B) (c (lS n none none none none none none none none none none none none none none none) rfl rfl) (R.all_mono (fun p hp => by
    obtain ⟨e1, x, xs, e2, ⟨B, rfl, LB, _⟩, e3⟩ := hp
    exact ⟨e1, B, by rw [e2, e3], LB⟩) (lcons_all (P1 := fun d => ∃ A, d = tZ A ∧ Lot n A ∧ ∃ C, A = 0 :: C) (P2 := fun xs => xs = []) (c (lS n none none none none none none none none none none none none none none none) rfl rfl) (show R.all (liL pNil _) _ from ⟨rfl, rfl⟩)))
  refine all_sq ?_
  unfold sAsK mTupK
  refine all_bk (all_bk (R.all_mono ?_ q))
  rintro ⟨l, s⟩ ⟨e1, x, xs, e2, ⟨A, rfl, LA, _⟩, B, rfl, LB⟩
  simp only at e1 e2
  subst e1 e2
  refine ⟨_, rfl, ?_⟩
  exact k2_ok LA LB
end EV
set_option maxHeartbeats 0
namespace EV
open PySem PySem.Spec PyProof.Rows L2
theorem preS : (kPre (st1 18)).allb (okNx 18) = true := by decide +kernel
theorem endS : (kE (st1 18)).allb okRt = true := by decide +kernel
theorem semL : Gives ((den (callF FL κL prL 7) κL lawC).M (st1 lawG.N.length)) := by
  constructor
  rw [show lawG.N.length = 18 from rfl, eLaw _ (fe3 7 (by decide)) (fe5 7 (by decide)) (fe6 7 (by decide)) (fe7 7 (by decide)) (fe8 7 (by decide)) (fe9 7 (by decide)) (fe10 7 (by decide)) (fe11 7 (by decide)) (fe12 7 (by decide)) (fe13 7 (by decide)) (fe14 7 (by decide)) (fe15 7 (by decide)) (fe16 7 (by decide))]
  exact split_all preS (loop_all (by decide) (by decide) (by decide +kernel) turn_ok (rt_all endS))
theorem sc0 : FnScope fd0.N ["thing"] (defScope (topS 5)) := sc_by (by decide +kernel)
theorem sc1 : FnScope fd1.N ["thing", "low", "high"] (defScope (topS 6)) := sc_by (by decide +kernel)
theorem sc2 : FnScope fd2.N ["number"] (defScope (topS 10)) := sc_by (by decide +kernel)
theorem sc3 : FnScope fd3.N ["number", "thing"] (defScope (topS 11)) := sc_by (by decide +kernel)
theorem sc4 : FnScope fd4.N ["number", "lot"] (defScope (topS 12)) := sc_by (by decide +kernel)
theorem sc5 : FnScope fd5.N ["number", "one", "other"] (defScope (topS 13)) := sc_by (by decide +kernel)
theorem sc6 : FnScope fd6.N ["number", "one", "other"] (defScope (topS 14)) := sc_by (by decide +kernel)
theorem sc7 : FnScope fd7.N ["number", "lot"] (defScope (topS 15)) := sc_by (by decide +kernel)
theorem sc8 : FnScope fd8.N ["number", "lot"] (defScope (topS 16)) := sc_by (by decide +kernel)
theorem sc9 : FnScope fd9.N ["number", "lot"] (defScope (topS 17)) := sc_by (by decide +kernel)
theorem sc11 : FnScope fd11.N ["hand", "things"] (defScope (topS 21)) := sc_by (by decide +kernel)
theorem sc12 : FnScope fd12.N ["thing", "least", "most"] (defScope (topS 22)) := sc_by (by decide +kernel)
theorem sc13 : FnScope fd13.N ["hand"] (defScope (topS 23)) := sc_by (by decide +kernel)
theorem sc14 : FnScope fd14.N ["hand", "number"] (defScope (topS 24)) := sc_by (by decide +kernel)
theorem sc15 : FnScope fd15.N ["number", "one", "other"] (defScope (topS 25)) := sc_by (by decide +kernel)
theorem sc16 : FnScope fd16.N ["number", "lot"] (defScope (topS 26)) := sc_by (by decide +kernel)
theorem scL : FnScope lawG.N ["script"] (defScope (topS 27)) := sc_by (by decide +kernel)
theorem hF {P : Program} {w : World} {K : PySem.W.Frag} {mg : Str → Option Value} (mg0 : ∀ x ∈ blts, mg x = none) (d0 : DF K mg "is_integer" (topS 5) ["thing"]) (d1 : DF K mg "is_within" (topS 6) ["thing", "low", "high"]) (d2 : DF K mg "check_round" (topS 10) ["number"]) (d3 : DF K mg "is_lot" (topS 11) ["number", "thing"]) (d4 : DF K mg "check_lot" (topS 12) ["number", "lot"]) (d5 : DF K mg "sums" (topS 13) ["number", "one", "other"]) (d6 : DF K mg "fills" (topS 14) ["number", "one", "other"]) (d7 : DF K mg "partners" (topS 15) ["number", "lot"]) (d8 : DF K mg "partner" (topS 16) ["number", "lot"]) (d9 : DF K mg "stays_by" (topS 17) ["number", "lot"]) (d10 : DF K mg "_law_draw" (topS 20) ["hand", "many"]) (d11 : DF K mg "_law_some" (topS 21) ["hand", "things"]) (d12 : DF K mg "_law_is_int" (topS 22) ["thing", "least", "most"]) (d13 : DF K mg "_law_deep" (topS 23) ["hand"]) (d14 : DF K mg "_law_lot" (topS 24) ["hand", "number"]) (d15 : DF K mg "_law_sums" (topS 25) ["number", "one", "other"]) (d16 : DF K mg "_law_partners" (topS 26) ["number", "lot"]) :
    ∀ base : Heap, ∀ j fd, FL[j]? = some fd → FnF P w K mg base FL consL (prL j) fd := by
  intro base j fd e
  match j, e with
  | 0, e => cases e; exact fnf_mk d0 rfl sc0 (mu_ok (by decide +kernel)) c0
  | 1, e => cases e; exact fnf_mk d1 rfl sc1 (mu_ok (by decide +kernel)) c1
  | 2, e => cases e; exact fnf_mk d2 rfl sc2 (mu_ok (by decide +kernel)) c2
  | 3, e => cases e; exact fnf_mk d3 rfl sc3 (mu_ok (by decide +kernel)) c3
  | 4, e => cases e; exact fnf_mk d4 rfl sc4 (mu_ok (by decide +kernel)) c4
  | 5, e => cases e; exact fnf_mk d5 rfl sc5 (mu_ok (by decide +kernel)) c5
  | 6, e => cases e; exact fnf_mk d6 rfl sc6 (mu_ok (by decide +kernel)) c6
  | 7, e => cases e; exact fnf_mk d7 rfl sc7 (mu_ok (by decide +kernel)) c7
  | 8, e => cases e; exact fnf_mk d8 rfl sc8 (mu_ok (by decide +kernel)) c8
  | 9, e => cases e; exact fnf_mk d9 rfl sc9 (mu_ok (by decide +kernel)) c9
  | 10, e =>
    cases e
    obtain ⟨f, fdd, Fu, b, hm, _⟩ := d10.ex
    exact ⟨sDraw, f, fdd, ["hand", "many"], Fu, b, hm, rfl, ok_draw Fu fun x h => mg0 x (blt_mem h)⟩
  | 11, e => cases e; exact fnf_mk d11 rfl sc11 (mu_ok (by decide +kernel)) c11
  | 12, e => cases e; exact fnf_mk d12 rfl sc12 (mu_ok (by decide +kernel)) c12
  | 13, e => cases e; exact fnf_mk d13 rfl sc13 (mu_ok (by decide +kernel)) c13
  | 14, e => cases e; exact fnf_mk d14 rfl sc14 (mu_ok (by decide +kernel)) c14
  | 15, e => cases e; exact fnf_mk d15 rfl sc15 (mu_ok (by decide +kernel)) c15
  | 16, e => cases e; exact fnf_mk d16 rfl sc16 (mu_ok (by decide +kernel)) c16
  | j + 17, e => exact nomatch e
theorem conL {K : PySem.W.Frag} {mg : Str → Option Value} (k0 : ∃ t, mg "MOST_ROUND" = some (.int 48 t)) (k1 : ∃ t, mg "MOST_STEPS" = some (.int 50000 t)) : ∀ j x, consL[j]? = some x → ∃ u v, mg x = some u ∧ RelV v u ∧ ∀ H F, Sh K H F v (κL j) := by
  intro j x e
  match j, e with
  | 0, e =>
    cases e
    obtain ⟨t, h⟩ := k0
    exact ⟨_, .int 48, h, ⟨t, rfl⟩, fun _ _ => .int _⟩
  | 1, e =>
    cases e
    obtain ⟨t, h⟩ := k1
    exact ⟨_, .int 50000, h, ⟨t, rfl⟩, fun _ _ => .int _⟩
  | j + 2, e => exact nomatch e
theorem bodyL : defBody (topS 27) = .Assign [.Name "hand" ⟨131, 4, 131, 8⟩] (.Call (.Name "_law_hand" ⟨131, 11, 131, 20⟩) [.Name "script" ⟨131, 21, 131, 27⟩] [] ⟨131, 11, 131, 28⟩) ⟨131, 4, 131, 28⟩ :: (defBody (topS 27)).tail := by kernel_rfl
theorem vL : visB (defScope (topS 27)) "script" = true := by decide +kernel
theorem oL : locB (defScope (topS 27)) (fun _ => true) "hand" = true := by decide +kernel
theorem gL : glB (defScope (topS 27)) "_law_hand" = true := by decide +kernel
theorem allL {l : PySem.W.OpenLaw} {w : World} {K : PySem.W.Frag} {mg : Str → Option Value} {fa : Addr} (hfa : mg "law" = some (.ref fa)) (mg0 : ∀ x ∈ blts, mg x = none) (con : ∀ j x, consL[j]? = some x → ∃ u v, mg x = some u ∧ RelV v u ∧ ∀ H F, Sh K H F v (κL j)) (DL : DF K mg "law" (topS 27) ["script"]) (DH : DF K mg "_law_hand" sHand ["script"])
    (hF : ∀ base : Heap, ∀ j fd, FL[j]? = some fd → FnF l.prog w K mg base FL consL (prL j) fd) :
    ∃ fd : FuncData, (∀ (s : Shared) (v : Value), BindsTo s fd ⟨[v], []⟩ [("script", v)]) ∧ ∀ base : Heap, K.In base → base.Ns mainGlobals mg → FnOk l.prog w K mg base L2.CX0 8 fa fd ["script"] (spLaw K) :=
  law_all (Γ := lawG) (n := 6) (c := lawC) (rest := (defBody (topS 27)).tail) hfa rfl mg0 con DL DH hF scL bodyL rfl rfl vL oL gL rfl cL semL
end EV
open PySem PySem.W PyProof.Rows
set_option maxHeartbeats 0 in
theorem PySem.Challenge.cw_tiledwhole_k39_whole_lots_of_hours_holds : PySem.Challenge.rw_tiledwhole_k39_whole_lots_of_hours.Holds := by
  w_on; o_law; k_head; (case hw => w_witness2)
  k_fill
  refine L2.walk_of (l := PySem.Challenge.rw_tiledwhole_k39_whole_lots_of_hours) (n := 63) (k := 8) (x := "script") (CX := fun _ => L2.CX0) (sp := fun w => EV.spLaw _) rfl (by decide) rfl ⟨rfl, by decide, by decide⟩ (fun w h Y => PySem.W.kIn_of Y) ?F (fun _ _ a ns hl _ hS => ⟨a, ns, rfl, hS, hl, fun _ => rfl⟩) (fun _ _ _ _ _ h => h)
  case F =>
    intro w mg fa h KX G hmg
    refine EV.allL (l := PySem.Challenge.rw_tiledwhole_k39_whole_lots_of_hours) hmg ?mg0 ?con ?DL ?DH ?hF
    case mg0 =>
      intro x hx
      simp only [EV.blts, List.mem_cons, List.not_mem_nil, or_false] at hx
      rcases hx with hx | hx | hx | hx | hx | hx | hx | hx | hx | hx | hx | hx | hx | hx | hx | hx | hx | hx | hx <;> subst hx
      · refine PySem.W.mg_none_of KX G ?_
        k_is
      · refine PySem.W.mg_none_of KX G ?_
        k_is
      · refine PySem.W.mg_none_of KX G ?_
        k_is
      · refine PySem.W.mg_none_of KX G ?_
        k_is
      · refine PySem.W.mg_none_of KX G ?_
        k_is
      · refine PySem.W.mg_none_of KX G ?_
        k_is
      · refine PySem.W.mg_none_of KX G ?_
        k_is
      · refine PySem.W.mg_none_of KX G ?_
        k_is
      · refine PySem.W.mg_none_of KX G ?_
        k_is
      · refine PySem.W.mg_none_of KX G ?_
        k_is
      · refine PySem.W.mg_none_of KX G ?_
        k_is
      · refine PySem.W.mg_none_of KX G ?_
        k_is
      · refine PySem.W.mg_none_of KX G ?_
        k_is
      · refine PySem.W.mg_none_of KX G ?_
        k_is
      · refine PySem.W.mg_none_of KX G ?_
        k_is
      · refine PySem.W.mg_none_of KX G ?_
        k_is
      · refine PySem.W.mg_none_of KX G ?_
        k_is
      · refine PySem.W.mg_none_of KX G ?_
        k_is
      · refine PySem.W.mg_none_of KX G ?_
        k_is
    case con =>
      refine EV.conL ?e0 ?e1
      case e0 =>
        refine' EV.con_mk KX G ?ce ?cq
        (case ce => k_is); (case cq => exact ⟨_, rfl⟩)
      case e1 =>
        refine' EV.con_mk KX G ?ce ?cq
        (case ce => k_is); (case cq => exact ⟨_, rfl⟩)
    case DL =>
      refine' EV.df_mk KX G (fun _ _ _ _ _ _ us hl => match us, hl with | [_], _ => rfl) ?a ?l ?c ?k
      (case a => k_is); (case l => k_is); (case c => k_is); (case k => k_is)
    case DH =>
      refine' EV.df_mk KX G (fun _ _ _ _ _ _ us hl => match us, hl with | [_], _ => rfl) ?a ?l ?c ?k
      (case a => k_is); (case l => k_is); (case c => k_is); (case k => k_is)
    case hF =>
      refine' EV.hF ?mg0 ?d0 ?d1 ?d2 ?d3 ?d4 ?d5 ?d6 ?d7 ?d8 ?d9 ?d10 ?d11 ?d12 ?d13 ?d14 ?d15 ?d16
      case mg0 =>
        intro x hx
        simp only [EV.blts, List.mem_cons, List.not_mem_nil, or_false] at hx
        rcases hx with hx | hx | hx | hx | hx | hx | hx | hx | hx | hx | hx | hx | hx | hx | hx | hx | hx | hx | hx <;> subst hx
        · refine PySem.W.mg_none_of KX G ?_
          k_is
        · refine PySem.W.mg_none_of KX G ?_
          k_is
        · refine PySem.W.mg_none_of KX G ?_
          k_is
        · refine PySem.W.mg_none_of KX G ?_
          k_is
        · refine PySem.W.mg_none_of KX G ?_
          k_is
        · refine PySem.W.mg_none_of KX G ?_
          k_is
        · refine PySem.W.mg_none_of KX G ?_
          k_is
        · refine PySem.W.mg_none_of KX G ?_
          k_is
        · refine PySem.W.mg_none_of KX G ?_
          k_is
        · refine PySem.W.mg_none_of KX G ?_
          k_is
        · refine PySem.W.mg_none_of KX G ?_
          k_is
        · refine PySem.W.mg_none_of KX G ?_
          k_is
        · refine PySem.W.mg_none_of KX G ?_
          k_is
        · refine PySem.W.mg_none_of KX G ?_
          k_is
        · refine PySem.W.mg_none_of KX G ?_
          k_is
        · refine PySem.W.mg_none_of KX G ?_
          k_is
        · refine PySem.W.mg_none_of KX G ?_
          k_is
        · refine PySem.W.mg_none_of KX G ?_
          k_is
        · refine PySem.W.mg_none_of KX G ?_
          k_is
      case d0 =>
        refine' EV.df_mk KX G (fun _ _ _ _ _ _ us hl => match us, hl with | [_], _ => rfl) ?a ?l ?c ?k
        (case a => k_is); (case l => k_is); (case c => k_is); (case k => k_is)
      case d1 =>
        refine' EV.df_mk KX G (fun _ _ _ _ _ _ us hl => match us, hl with | [_, _, _], _ => rfl) ?a ?l ?c ?k
        (case a => k_is); (case l => k_is); (case c => k_is); (case k => k_is)
      case d2 =>
        refine' EV.df_mk KX G (fun _ _ _ _ _ _ us hl => match us, hl with | [_], _ => rfl) ?a ?l ?c ?k
        (case a => k_is); (case l => k_is); (case c => k_is); (case k => k_is)
      case d3 =>
        refine' EV.df_mk KX G (fun _ _ _ _ _ _ us hl => match us, hl with | [_, _], _ => rfl) ?a ?l ?c ?k
        (case a => k_is); (case l => k_is); (case c => k_is); (case k => k_is)
      case d4 =>
        refine' EV.df_mk KX G (fun _ _ _ _ _ _ us hl => match us, hl with | [_, _], _ => rfl) ?a ?l ?c ?k
        (case a => k_is); (case l => k_is); (case c => k_is); (case k => k_is)
      case d5 =>
        refine' EV.df_mk KX G (fun _ _ _ _ _ _ us hl => match us, hl with | [_, _, _], _ => rfl) ?a ?l ?c ?k
        (case a => k_is); (case l => k_is); (case c => k_is); (case k => k_is)
      case d6 =>
        refine' EV.df_mk KX G (fun _ _ _ _ _ _ us hl => match us, hl with | [_, _, _], _ => rfl) ?a ?l ?c ?k
        (case a => k_is); (case l => k_is); (case c => k_is); (case k => k_is)
      case d7 =>
        refine' EV.df_mk KX G (fun _ _ _ _ _ _ us hl => match us, hl with | [_, _], _ => rfl) ?a ?l ?c ?k
        (case a => k_is); (case l => k_is); (case c => k_is); (case k => k_is)
      case d8 =>
        refine' EV.df_mk KX G (fun _ _ _ _ _ _ us hl => match us, hl with | [_, _], _ => rfl) ?a ?l ?c ?k
        (case a => k_is); (case l => k_is); (case c => k_is); (case k => k_is)
      case d9 =>
        refine' EV.df_mk KX G (fun _ _ _ _ _ _ us hl => match us, hl with | [_, _], _ => rfl) ?a ?l ?c ?k
        (case a => k_is); (case l => k_is); (case c => k_is); (case k => k_is)
      case d10 =>
        refine' EV.df_mk KX G (fun _ _ _ _ _ _ us hl => match us, hl with | [_, _], _ => rfl) ?a ?l ?c ?k
        (case a => k_is); (case l => k_is); (case c => k_is); (case k => k_is)
      case d11 =>
        refine' EV.df_mk KX G (fun _ _ _ _ _ _ us hl => match us, hl with | [_, _], _ => rfl) ?a ?l ?c ?k
        (case a => k_is); (case l => k_is); (case c => k_is); (case k => k_is)
      case d12 =>
        refine' EV.df_mk KX G (fun _ _ _ _ _ _ us hl => match us, hl with | [_, _, _], _ => rfl) ?a ?l ?c ?k
        (case a => k_is); (case l => k_is); (case c => k_is); (case k => k_is)
      case d13 =>
        refine' EV.df_mk KX G (fun _ _ _ _ _ _ us hl => match us, hl with | [_], _ => rfl) ?a ?l ?c ?k
        (case a => k_is); (case l => k_is); (case c => k_is); (case k => k_is)
      case d14 =>
        refine' EV.df_mk KX G (fun _ _ _ _ _ _ us hl => match us, hl with | [_, _], _ => rfl) ?a ?l ?c ?k
        (case a => k_is); (case l => k_is); (case c => k_is); (case k => k_is)
      case d15 =>
        refine' EV.df_mk KX G (fun _ _ _ _ _ _ us hl => match us, hl with | [_, _, _], _ => rfl) ?a ?l ?c ?k
        (case a => k_is); (case l => k_is); (case c => k_is); (case k => k_is)
      case d16 =>
        refine' EV.df_mk KX G (fun _ _ _ _ _ _ us hl => match us, hl with | [_, _], _ => rfl) ?a ?l ?c ?k
        (case a => k_is); (case l => k_is); (case c => k_is); (case k => k_is)
