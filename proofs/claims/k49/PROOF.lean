import PyProof.Rows.All
import Wide.All
import OpenK.AllK
import Wide.FinOn
import HandS.ForDict
import HandS.ForMost
import HandS.IsInst
import KE.SortData
import HandS.TupAny
import HandS.TupMul
import HandS.Style
import HandS.Zip
import HandS.Deep
import HandS.NoneIn
import KE.KRevSl
import HandS.Iter
import PyProof.ListIndex
import PyProof.ListIndexNeg
import HandS.TupSets
import HandS.SetFor
import HandS.Strs
import HandS.Dict
import KE.GoesEnum
import HandS.Codes
import PyProof.FactsAll.list_0
import PyProof.FactsAll.list_3
import HandS.Words
import HandS.Ends
import PySem.Challenge.RW_tiledwhole_k49_whole_cuts_turned_and_gro
set_option Elab.async false
set_option linter.all false
set_option maxRecDepth 100000
/-! values as trees, an evaluator's answers, the heap held against them -/
namespace EV
open PySem PySem.Spec PyProof.Rows L2

/-- a value as a tree; hnd: the law's own drawing hand -/
inductive D where
  | non | bl (b : Bool) | int (i : Int) | str (x : Str) | tup (xs : List D) | lst (xs : List D) | hnd | dic
/-- an answer: a value, a draw below n, nothing told -/
inductive R (α : Type) where
  | ok (a : α) | dr (n : Nat) (k : Nat → R α) | bad
namespace R
variable {α β : Type}
def bind : R α → (α → R β) → R β
  | .ok a, f => f a
  | .dr n k, f => .dr n fun d => bind (k d) f
  | .bad, _ => .bad
def all : R α → (α → Prop) → Prop
  | .ok a, p => p a
  | .dr n k, p => ∀ d, d < n → all (k d) p
  | .bad, _ => False
def allb : R α → (α → Bool) → Bool
  | .ok a, p => p a
  | .dr n k, p => (List.range n).all fun d => allb (k d) p
  | .bad, _ => false
theorem all_bind {p : β → Prop} {f : α → R β} : ∀ {x : R α}, (bind x f).all p → x.all fun a => (f a).all p
  | .ok _, h => h
  | .dr _ _, h => fun d hd => all_bind (h d hd)
  | .bad, h => h
theorem bind_all {p : β → Prop} {f : α → R β} : ∀ {x : R α}, (x.all fun a => (f a).all p) → (bind x f).all p
  | .ok _, h => h
  | .dr _ _, h => fun d hd => bind_all (h d hd)
  | .bad, h => h
theorem all_mono {p q : α → Prop} (h : ∀ a, p a → q a) : ∀ {x : R α}, x.all p → x.all q
  | .ok _, g => h _ g
  | .dr _ _, g => fun d hd => all_mono h (g d hd)
  | .bad, g => g
theorem all_of {p : α → Bool} {q : α → Prop} (h : ∀ a, p a = true → q a) : ∀ {x : R α}, x.allb p = true → x.all q
  | .ok _, g => h _ g
  | .dr n k, g => fun d hd => by
    unfold allb at g
    exact all_of h (List.all_eq_true.mp g d (List.mem_range.mpr hd))
  | .bad, g => nomatch (show false = true from g)
end R
def strOkB (x : Str) : Bool := PyData.strOk x
/-- the slots -/
abbrev AS := List (Option D)

mutual
/-- d is read at v, off no list of F -/
inductive Sh (K : PySem.W.Frag) (H : Hp) (F : Addr → Prop) : V → D → Prop
  | non : Sh K H F .non .non
  | bl (b : Bool) : Sh K H F (.bl b) (.bl b)
  | int (i : Int) : Sh K H F (.int i) (.int i)
  | str (x : Str) : strOkB x = true → Sh K H F (.str x) (.str x)
  | tup {a : Addr} {vs : List V} {ds : List D} : SqT K H a vs → Shs K H F vs ds → Sh K H F (.ref a) (.tup ds)
  | lst {a : Addr} {vs : List V} {ds : List D} : Rd H a (.lst vs) → ¬ F a → Shs K H F vs ds → Sh K H F (.ref a) (.lst ds)
  | dic {a : Addr} {kvs : List (Key × V)} : Rd H a (.dK kvs) → Sh K H F (.ref a) .dic
inductive Shs (K : PySem.W.Frag) (H : Hp) (F : Addr → Prop) : List V → List D → Prop
  | nil : Shs K H F [] []
  | cons {v : V} {vs : List V} {d : D} {ds : List D} : Sh K H F v d → Shs K H F vs ds → Shs K H F (v :: vs) (d :: ds)
end
section
variable {K : PySem.W.Frag} {H H' : Hp} {F F' : Addr → Prop}
mutual
theorem Sh.step (hr : ∀ a u, Rd H a u → (∀ xs, u = .lst xs → ¬ F a) → Rd H' a u) (hf : ∀ a xs, Rd H a (.lst xs) → F' a → F a) : ∀ {v : V} {d : D}, Sh K H F v d → Sh K H' F' v d
  | _, _, .non => .non
  | _, _, .bl b => .bl b
  | _, _, .int i => .int i
  | _, _, .str x h => .str x h
  | _, _, .tup h hs => .tup (h.elim (fun q => .inl (hr _ _ q fun xs e => nomatch e)) fun q => .inr q) (Shs.step hr hf hs)
  | _, _, .lst h n hs => .lst (hr _ _ h fun _ _ => n) (fun z => n (hf _ _ h z)) (Shs.step hr hf hs)
  | _, _, .dic h => .dic (hr _ _ h fun _ e => nomatch e)
theorem Shs.step (hr : ∀ a u, Rd H a u → (∀ xs, u = .lst xs → ¬ F a) → Rd H' a u) (hf : ∀ a xs, Rd H a (.lst xs) → F' a → F a) : ∀ {vs : List V} {ds : List D}, Shs K H F vs ds → Shs K H' F' vs ds
  | _, _, .nil => .nil
  | _, _, .cons h hs => .cons (Sh.step hr hf h) (Shs.step hr hf hs)
end
theorem Sh.mono (hf : ∀ a, F' a → F a) {v : V} {d : D} (h : Sh K H F v d) : Sh K H F' v d := h.step (fun _ _ r _ => r) fun a _ _ => hf a
theorem Shs.mono (hf : ∀ a, F' a → F a) {v : List V} {d : List D} (h : Shs K H F v d) : Shs K H F' v d := h.step (fun _ _ r _ => r) fun a _ _ => hf a
theorem Shs.length : ∀ {vs : List V} {ds : List D}, Shs K H F vs ds → vs.length = ds.length
  | _, _, .nil => rfl
  | _, _, .cons _ hs => congrArg (· + 1) (Shs.length hs)
theorem Shs.get : ∀ {vs : List V} {ds : List D} {i : Nat} {d : D}, Shs K H F vs ds → ds[i]? = some d → ∃ v, vs[i]? = some v ∧ Sh K H F v d
  | _, _, _, _, .nil, e => by simp at e
  | _, _, 0, _, .cons h _, e => by simp at e; subst e; exact ⟨_, rfl, h⟩
  | _, _, i + 1, d, .cons _ hs, e => by
    obtain ⟨v, h1, h2⟩ := Shs.get (i := i) (d := d) hs (by simpa using e)
    exact ⟨v, by simpa using h1, h2⟩
theorem Shs.getV : ∀ {vs : List V} {ds : List D} {i : Nat} {v : V}, Shs K H F vs ds → vs[i]? = some v → ∃ d, ds[i]? = some d ∧ Sh K H F v d
  | _, _, _, _, .nil, e => by simp at e
  | _, _, 0, _, .cons h _, e => by simp at e; subst e; exact ⟨_, rfl, h⟩
  | _, _, i + 1, v, .cons _ hs, e => by
    obtain ⟨d, h1, h2⟩ := Shs.getV (i := i) (v := v) hs (by simpa using e)
    exact ⟨d, by simpa using h1, h2⟩
theorem Shs.append : ∀ {vs ws : List V} {ds es : List D}, Shs K H F vs ds → Shs K H F ws es → Shs K H F (vs ++ ws) (ds ++ es)
  | _, _, _, _, .nil, h => h
  | _, _, _, _, .cons h hs, g => .cons h (Shs.append hs g)
theorem Shs.take : ∀ {vs : List V} {ds : List D} (n : Nat), Shs K H F vs ds → Shs K H F (vs.take n) (ds.take n)
  | _, _, 0, _ => .nil
  | _, _, _ + 1, .nil => .nil
  | _, _, n + 1, .cons h hs => .cons h (Shs.take n hs)
theorem Shs.drop : ∀ {vs : List V} {ds : List D} (n : Nat), Shs K H F vs ds → Shs K H F (vs.drop n) (ds.drop n)
  | _, _, 0, h => h
  | _, _, _ + 1, .nil => .nil
  | _, _, n + 1, .cons _ hs => Shs.drop n hs
theorem Shs.rev {vs : List V} {ds : List D} (h : Shs K H F vs ds) : Shs K H F vs.reverse ds.reverse := by
  induction ds generalizing vs with
  | nil => cases h; exact .nil
  | cons d ds ih =>
    cases h with
    | cons h1 h2 =>
      rw [List.reverse_cons, List.reverse_cons]
      exact (ih h2).append (.cons h1 .nil)
theorem Shs.set : ∀ {vs : List V} {ds : List D} {v : V} {d : D} (n : Nat), Shs K H F vs ds → Sh K H F v d → Shs K H F (vs.set n v) (ds.set n d)
  | _, _, _, _, _, .nil, _ => .nil
  | _, _, _, _, 0, .cons _ hs, h => .cons h hs
  | _, _, _, _, n + 1, .cons g hs, h => .cons g (Shs.set n hs h)
end
/-- .. or the hand -/
def ShR (K : PySem.W.Frag) (hd : Option Addr) (H : Hp) (F : Addr → Prop) (v : V) (d : D) : Prop := Sh K H F v d ∨ (d = .hnd ∧ ∃ a, v = .ref a ∧ hd = some a)
inductive ShRs (K : PySem.W.Frag) (hd : Option Addr) (H : Hp) (F : Addr → Prop) : List V → List D → Prop
  | nil : ShRs K hd H F [] []
  | cons {v : V} {vs : List V} {d : D} {ds : List D} : ShR K hd H F v d → ShRs K hd H F vs ds → ShRs K hd H F (v :: vs) (d :: ds)
theorem ShR.mono {K : PySem.W.Frag} {hd : Option Addr} {H : Hp} {F F' : Addr → Prop} (hf : ∀ a, F' a → F a) {v : V} {d : D} (h : ShR K hd H F v d) : ShR K hd H F' v d := h.elim (fun q => .inl (q.mono hf)) .inr
/-- the drawing hand: a list of the cells' list and four ints -/
def HandI (hd : Option Addr) (hc : Addr) (B : Addr → Prop) (H : Hp) : Prop := ∀ a, hd = some a → (B a ∧ B hc ∧ hc ≠ a) ∧ ∃ (i l m n : Int) (cs : List Int), H a = some (.lst [.ref hc, .int i, .int l, .int m, .int n]) ∧ H hc = some (.lst (cs.map V.int)) ∧
  0 ≤ i ∧ 0 ≤ l ∧ 0 ≤ m ∧ 0 ≤ n ∧ ∀ x ∈ cs, 0 ≤ x
/-- what stands through a def's run: the text's own objects, the hand, what the callers own; which slots own their lists -/
structure Cn where
  K : PySem.W.Frag
  hd : Option Addr
  hc : Addr
  B : Addr → Prop
  kd : Nat → Bool
def Cn.F (G : Cn) (O : Addr → Prop) : Addr → Prop := fun a => G.B a ∨ O a
/-- a list that is owned -/
def OwC (G : Cn) (H : Hp) (O : Addr → Prop) (a : Addr) (d : D) : Prop := O a ∧ ∃ ds vs, d = .lst ds ∧ H a = some (.lst vs) ∧ Shs G.K H (G.F O) vs ds
/-- what a slot holds: an owned list, or a value that is read -/
def SlotR (G : Cn) (k : Bool) (H : Hp) (O : Addr → Prop) (v : V) (d : D) : Prop := match k with
  | true => ∃ a, v = .ref a ∧ OwC G H O a d
  | false => ShR G.K G.hd H (G.F O) v d
structure SR (G : Cn) (st : AS) (σ : L2.St) (H : Hp) (O : Addr → Prop) : Prop where
  len : st.length = σ.length
  val : ∀ i d, st[i]? = some (some d) → ∃ v, σ[i]? = some (some v) ∧ SlotR G (G.kd i) H O v d
  ap : ∀ i j d d' a, i ≠ j → G.kd i = true → G.kd j = true → st[i]? = some (some d) → st[j]? = some (some d') → σ[i]? = some (some (.ref a)) → σ[j]? = some (some (.ref a)) → False
  tr : ∀ a, G.F O a → ∃ xs, H a = some (.lst xs)
  bo : ∀ a, G.B a → ¬ O a
  hn : HandI G.hd G.hc G.B H
/-- all but the hand is kept -/
def Keep (hd : Option Addr) (H H' : Hp) : Prop := ∀ a o, H a = some o → hd ≠ some a → H' a = some o
/-- a step: what is not owned is kept; a pure one keeps all -/
structure Stp (pu : Bool) (hd : Option Addr) (O : Addr → Prop) (H : Hp) (O' : Addr → Prop) (H' : Hp) : Prop where
  pr : ∀ a o, H a = some o → (pu = true ∨ ¬ O a) → hd ≠ some a → H' a = some o
  nw : ∀ a, O' a → O a ∨ H a = none
theorem Stp.refl {pu : Bool} {hd : Option Addr} {O : Addr → Prop} {H : Hp} : Stp pu hd O H O H := ⟨fun _ _ e _ _ => e, fun _ h => .inl h⟩
theorem Stp.trans {pu : Bool} {hd : Option Addr} {O O1 O2 : Addr → Prop} {H H1 H2 : Hp} (a : Stp pu hd O H O1 H1) (b : Stp pu hd O1 H1 O2 H2) (hh : ∀ x, hd = some x → ¬ O2 x) : Stp pu hd O H O2 H2 where
  pr := fun x o e h n => b.pr x o (a.pr x o e h n) (h.elim (fun p => .inl p) fun q => .inr fun z => (a.nw x z).elim q fun z => by rw [e] at z; cases z) n
  nw := fun x h => by
    rcases b.nw x h with q | q
    · exact a.nw x q
    · cases e : H x with
      | none => exact .inr rfl
      | some o =>
        by_cases ho : O x
        · exact .inl ho
        · have := a.pr x o e (.inr ho) fun z => hh x z h
          rw [q] at this; cases this
theorem Stp.weak {pu : Bool} {hd : Option Addr} {O O1 : Addr → Prop} {H H1 : Hp} (a : Stp pu hd O H O1 H1) : Stp false hd O H O1 H1 :=
  ⟨fun x o e h n => a.pr x o e (h.elim (fun z => nomatch z) .inr) n, a.nw⟩
section
variable {G : Cn} {st st' : AS} {σ σ' : L2.St} {H H' : Hp} {O O' : Addr → Prop} {pu : Bool}
theorem SR.hO (S : SR G st σ H O) : ∀ x, G.hd = some x → ¬ O x := fun x e => S.bo x (S.hn x e).1.1
theorem SR.hF (S : SR G st σ H O) : ∀ x, G.hd = some x → G.F O x := fun x e => .inl (S.hn x e).1.1
theorem SR.stp (S : SR G st σ H O) (p : Stp pu G.hd O H O' H') : (∀ a u, Rd H a u → (∀ xs, u = .lst xs → ¬ G.F O a) → Rd H' a u) ∧ (∀ a xs, Rd H a (.lst xs) → G.F O' a → G.F O a) := by
  have key : ∀ a o, H a = some o → ¬ G.F O a → H' a = some o := fun a o e n => p.pr a o e (.inr fun z => n (.inr z)) fun z => n (S.hF a z)
  have nf : ∀ a u, Rd H a u → (∀ xs, u = .lst xs → ¬ G.F O a) → ¬ G.F O a := fun a u r q z => by
    obtain ⟨xs, e⟩ := S.tr a z
    rcases r with r | ⟨o, r⟩
    · rw [e] at r; cases r; exact q xs rfl z
    · rw [e] at r; cases r
  refine ⟨fun a u r q => ?_, fun a xs r z => ?_⟩
  · have n := nf a u r q
    rcases r with r | ⟨o, r⟩
    · exact .inl (key a _ r n)
    · exact .inr ⟨o, key a _ r n⟩
  · rcases z with z | z
    · exact .inl z
    · rcases p.nw a z with z | z
      · exact .inr z
      · rcases r with r | ⟨o, r⟩ <;> rw [z] at r <;> cases r
/-- a reading is carried over a step -/
theorem SR.car0 (S : SR G st σ H O) (p : Stp pu G.hd O H O' H') {v : V} {d : D} (h : Sh G.K H (G.F O) v d) : Sh G.K H' (G.F O') v d := h.step (S.stp p).1 (S.stp p).2
theorem SR.cars0 (S : SR G st σ H O) (p : Stp pu G.hd O H O' H') {v : List V} {d : List D} (h : Shs G.K H (G.F O) v d) : Shs G.K H' (G.F O') v d := h.step (S.stp p).1 (S.stp p).2
theorem SR.car (S : SR G st σ H O) (p : Stp pu G.hd O H O' H') {v : V} {d : D} (h : ShR G.K G.hd H (G.F O) v d) : ShR G.K G.hd H' (G.F O') v d := h.elim (fun q => .inl (S.car0 p q)) .inr
theorem SR.cars (S : SR G st σ H O) (p : Stp pu G.hd O H O' H') : ∀ {v : List V} {d : List D}, ShRs G.K G.hd H (G.F O) v d → ShRs G.K G.hd H' (G.F O') v d
  | _, _, .nil => .nil
  | _, _, .cons h hs => .cons (S.car p h) (S.cars p hs)
end
inductive Kd where | sh | ow | br
/-- what an expression hands on: shared, owned (fresh), or lent for the moment -/
def VR (G : Cn) (k : Kd) (st : AS) (σ : L2.St) (H : Hp) (O : Addr → Prop) (v : V) (d : D) : Prop := match k with
  | .sh => ShR G.K G.hd H (G.F O) v d
  | .br => ShR G.K G.hd H (G.F O) v d ∨ ∃ a ds vs, v = .ref a ∧ d = .lst ds ∧ ¬ G.B a ∧ Rd H a (.lst vs) ∧ Shs G.K H (G.F O) vs ds
  | .ow => ∃ a, v = .ref a ∧ OwC G H O a d ∧ ∀ i d', G.kd i = true → st[i]? = some (some d') → σ[i]? ≠ some (some (.ref a))
/-- an expression's reading -/
def T (G : Cn) (k : Kd) (pu : Bool) (m : AS → R (D × AS)) : TE := fun σ H Q => ∃ st O, SR G st σ H O ∧ (m st).all fun p => ∀ v H' O', Stp pu G.hd O H O' H' → SR G p.2 σ H' O' → VR G k p.2 σ H' O' v p.1 → Q v H'
/-- a test's -/
def TB (G : Cn) (pu : Bool) (m : AS → R (Bool × AS)) : TT := fun σ H Q => ∃ st O, SR G st σ H O ∧ (m st).all fun p => ∀ H' O', Stp pu G.hd O H O' H' → SR G p.2 σ H' O' → Q p.1 H'
/-- an argument list's -/
def TL (G : Cn) (pu : Bool) (m : AS → R (List D × AS)) : TA := fun σ H Q => ∃ st O, SR G st σ H O ∧ (m st).all fun p => ∀ vs H' O', Stp pu G.hd O H O' H' → SR G p.2 σ H' O' → ShRs G.K G.hd H' (G.F O') vs p.1 → Q vs H'
theorem PE.weak {X : Cx} {e : Expr} {t t' : TE} (h : PE X e t) (w : ∀ σ H Q, t' σ H Q → t σ H Q) : PE X e t' := ⟨fun pins s σ H Q I q => h.run pins s σ H Q I (w σ H Q q)⟩
theorem PT.weak {X : Cx} {e : Expr} {t t' : TT} (h : PT X e t) (w : ∀ σ H Q, t' σ H Q → t σ H Q) : PT X e t' := ⟨fun pins s σ H Q I q => h.run pins s σ H Q I (w σ H Q q)⟩
theorem PA.weak {X : Cx} {e : List Expr} {t t' : TA} (h : PA X e t) (w : ∀ σ H Q, t' σ H Q → t σ H Q) : PA X e t' := ⟨fun pos pins s σ H Q I q => h.run pos pins s σ H Q I (w σ H Q q)⟩
theorem PS.weak {X : Cx} {e : Stmt} {t t' : TS} (h : PS X e t) (w : ∀ D σ H, t' D σ H → t D σ H) : PS X e t' := ⟨fun pins s σ H D I q => h.run pins s σ H D I (w D σ H q)⟩
theorem PSs.weak {X : Cx} {e : List Stmt} {t t' : TS} (h : PSs X e t) (w : ∀ D σ H, t' D σ H → t D σ H) : PSs X e t' := ⟨fun pins s σ H D I q => h.run pins s σ H D I (w D σ H q)⟩
section
variable {G : Cn} {st st' : AS} {σ σ' : L2.St} {H H' : Hp} {O O' : Addr → Prop} {pu : Bool} {v : V} {d : D}
/-- a list that is owned is given up -/
theorem SR.give (S : SR G st σ H O) {a : Addr} (h : ∀ (i : Nat) (d' : D), G.kd i = true → st[i]? = some (some d') → σ[i]? ≠ some (some (.ref a))) : SR G st σ H (fun b => O b ∧ b ≠ a) where
  len := S.len
  val := fun i d e => by
    obtain ⟨v, e1, q⟩ := S.val i d e
    refine ⟨v, e1, ?_⟩
    cases hk : G.kd i with
    | true =>
      rw [hk] at q
      obtain ⟨b, rfl, ho, ds, vs, e2, e3, e4⟩ := q
      exact ⟨b, rfl, ⟨ho, fun z => h i d hk e (by rw [e1, z])⟩, ds, vs, e2, e3, e4.mono fun c z => z.elim .inl fun z => .inr z.1⟩
    | false =>
      rw [hk] at q
      exact ShR.mono (fun c z => z.elim .inl fun z => .inr z.1) q
  ap := S.ap
  tr := fun b z => S.tr b (z.elim .inl fun z => .inr z.1)
  bo := fun b hb z => S.bo b hb z.1
  hn := S.hn
theorem Stp.give {a : Addr} (p : Stp pu G.hd O H O' H') : Stp pu G.hd O H (fun b => O' b ∧ b ≠ a) H' := ⟨p.pr, fun b z => p.nw b z.1⟩
theorem T.sh_of_ow {X : Cx} {e : Expr} {m : AS → R (D × AS)} (h : PE X e (T G .ow pu m)) : PE X e (T G .sh pu m) := PE.weak h fun σ H Q q => by
  obtain ⟨st, O, S, q⟩ := q
  refine ⟨st, O, S, R.all_mono (fun p q v H' O' sp S' vr => ?_) q⟩
  obtain ⟨a, rfl, ⟨ho, ds, vs, e1, e2, e3⟩, hn⟩ := vr
  refine q _ H' (fun b => O' b ∧ b ≠ a) sp.give (S'.give hn) ?_
  show ShR _ _ _ _ _ _
  rw [e1]
  exact .inl (.lst (.inl e2) (fun z => z.elim (fun z => S'.bo a z ho) fun z => z.2 rfl) (e3.mono fun c z => z.elim .inl fun z => .inr z.1))
theorem T.br_of_sh {X : Cx} {e : Expr} {m : AS → R (D × AS)} (h : PE X e (T G .sh pu m)) : PE X e (T G .br pu m) := PE.weak h fun σ H Q q => by
  obtain ⟨st, O, S, q⟩ := q
  exact ⟨st, O, S, R.all_mono (fun p q v H' O' sp S' vr => q v H' O' sp S' (.inl vr)) q⟩
theorem T.any_pu {X : Cx} {e : Expr} {k : Kd} {m : AS → R (D × AS)} (h : PE X e (T G k true m)) : PE X e (T G k pu m) := PE.weak h fun σ H Q q => by
  obtain ⟨st, O, S, q⟩ := q
  refine ⟨st, O, S, R.all_mono (fun p q v H' O' sp S' vr => q v H' O' ?_ S' vr) q⟩
  exact ⟨fun a o e _ n => sp.pr a o e (.inl rfl) n, sp.nw⟩
end
end EV
/-! slots stored and forgotten, new objects -/
namespace EV
open PySem PySem.Spec PyProof.Rows L2
def getS : AS → Nat → Option D
  | [], _ => none
  | x :: _, 0 => x
  | _ :: r, n + 1 => getS r n
theorem getS_some : ∀ {st : AS} {i : Nat} {d : D}, getS st i = some d → st[i]? = some (some d)
  | [], _, _, h => nomatch h
  | x :: _, 0, _, h => by simpa [getS] using h
  | _ :: r, n + 1, d, h => by simpa using getS_some (st := r) (i := n) (d := d) h
section
variable {G : Cn} {st st' : AS} {σ σ' : L2.St} {H H' : Hp} {O O' : Addr → Prop} {pu : Bool} {v : V} {d : D} {i : Nat} {a : Addr}
theorem set_some {α : Type} {l : List (Option α)} {i j : Nat} {x : Option α} {y : α} (h : (l.set i x)[j]? = some (some y)) : (i = j ∧ x = some y ∧ i < l.length) ∨ (i ≠ j ∧ l[j]? = some (some y)) := by
  by_cases e : i = j
  · subst e
    by_cases hl : i < l.length
    · rw [List.getElem?_set_self hl] at h
      exact .inl ⟨rfl, Option.some.inj h, hl⟩
    · rw [List.getElem?_eq_none (by simpa using hl)] at h
      cases h
  · rw [List.getElem?_set_ne e] at h
    exact .inr ⟨e, h⟩
theorem SR.putS (S : SR G st σ H O) (hk : G.kd i = false) (h : ShR G.K G.hd H (G.F O) v d) : SR G (st.set i (some d)) (σ.set i (some v)) H O where
  len := by simpa using S.len
  val := fun j d' e => by
    rcases set_some e with ⟨rfl, e1, hl⟩ | ⟨ne, e1⟩
    · cases e1
      refine ⟨v, List.getElem?_set_self (S.len ▸ hl), ?_⟩
      rw [hk]
      exact h
    · rw [List.getElem?_set_ne ne]
      exact S.val j d' e1
  ap := fun j k d1 d2 b ne hj hk' e1 e2 e3 e4 => by
    rcases set_some e1 with ⟨rfl, _, _⟩ | ⟨n1, e1⟩
    · rw [hk] at hj; cases hj
    · rcases set_some e2 with ⟨rfl, _, _⟩ | ⟨n2, e2⟩
      · rw [hk] at hk'; cases hk'
      · rw [List.getElem?_set_ne n1] at e3
        rw [List.getElem?_set_ne n2] at e4
        exact S.ap j k d1 d2 b ne hj hk' e1 e2 e3 e4
  tr := S.tr
  bo := S.bo
  hn := S.hn
theorem SR.putO (S : SR G st σ H O) (hk : G.kd i = true) (h : OwC G H O a d) (fr : ∀ (j : Nat) (d' : D), j ≠ i → G.kd j = true → st[j]? = some (some d') → σ[j]? ≠ some (some (.ref a))) : SR G (st.set i (some d)) (σ.set i (some (.ref a))) H O where
  len := by simpa using S.len
  val := fun j d' e => by
    rcases set_some e with ⟨rfl, e1, hl⟩ | ⟨ne, e1⟩
    · cases e1
      refine ⟨.ref a, List.getElem?_set_self (S.len ▸ hl), ?_⟩
      rw [hk]
      exact ⟨a, rfl, h⟩
    · rw [List.getElem?_set_ne ne]
      exact S.val j d' e1
  ap := fun j k d1 d2 b ne hj hk' e1 e2 e3 e4 => by
    rcases set_some e1 with ⟨rfl, _, hl⟩ | ⟨n1, e1⟩
    · rcases set_some e2 with ⟨rfl, _, _⟩ | ⟨n2, e2⟩
      · exact ne rfl
      · rw [List.getElem?_set_self (S.len ▸ hl)] at e3
        rw [List.getElem?_set_ne n2] at e4
        cases e3
        exact fr k d2 (Ne.symm n2) hk' e2 e4
    · rcases set_some e2 with ⟨rfl, _, hl⟩ | ⟨n2, e2⟩
      · rw [List.getElem?_set_self (S.len ▸ hl)] at e4
        rw [List.getElem?_set_ne n1] at e3
        cases e4
        exact fr j d1 (Ne.symm n1) hj e1 e3
      · rw [List.getElem?_set_ne n1] at e3
        rw [List.getElem?_set_ne n2] at e4
        exact S.ap j k d1 d2 b ne hj hk' e1 e2 e3 e4
  tr := S.tr
  bo := S.bo
  hn := S.hn
/-- what is told is less -/
theorem SR.less (S : SR G st σ H O) (hl : st'.length = σ'.length) (h : ∀ (j : Nat) (d' : D), st'[j]? = some (some d') → st[j]? = some (some d') ∧ σ'[j]? = σ[j]?) : SR G st' σ' H O where
  len := hl
  val := fun j d' e => by
    obtain ⟨e1, e2⟩ := h j d' e
    rw [e2]
    exact S.val j d' e1
  ap := fun j k d1 d2 b ne hj hk e1 e2 e3 e4 => by
    obtain ⟨f1, f2⟩ := h j d1 e1
    obtain ⟨g1, g2⟩ := h k d2 e2
    rw [f2] at e3
    rw [g2] at e4
    exact S.ap j k d1 d2 b ne hj hk f1 g1 e3 e4
  tr := S.tr
  bo := S.bo
  hn := S.hn
theorem SR.kill (S : SR G st σ H O) : SR G (st.set i none) σ H O := S.less (by simpa using S.len) fun j d' e => by
  rcases set_some e with ⟨_, e1, _⟩ | ⟨ne, e1⟩
  · cases e1
  · exact ⟨e1, rfl⟩
theorem SR.kill2 (S : SR G st σ H O) {x : Option V} : SR G (st.set i none) (σ.set i x) H O := S.less (by simpa using S.len) fun j d' e => by
  rcases set_some e with ⟨_, e1, _⟩ | ⟨ne, e1⟩
  · cases e1
  · exact ⟨e1, List.getElem?_set_ne ne⟩
def wipeA (st : AS) : List Nat → AS
  | [] => st
  | v :: vs => (wipeA st vs).set v none
theorem SR.wipe (S : SR G st σ H O) : ∀ vs : List Nat, SR G (wipeA st vs) (L2.wipe σ vs) H O
  | [] => S
  | _ :: vs => (S.wipe vs).kill2
/-- the heap goes on, the slots stay -/
theorem SR.goes (S : SR G st σ H O) (p : Stp true G.hd O H O' H') (tr : ∀ a, O' a → ∃ xs, H' a = some (.lst xs)) (bo : ∀ a, G.B a → ¬ O' a) (oo : ∀ a, O a → O' a) (hn : HandI G.hd G.hc G.B H') : SR G st σ H' O' where
  len := S.len
  val := fun j d' e => by
    obtain ⟨v, e1, q⟩ := S.val j d' e
    refine ⟨v, e1, ?_⟩
    cases hk : G.kd j with
    | true =>
      rw [hk] at q
      obtain ⟨b, rfl, ho, ds, vs, e2, e3, e4⟩ := q
      exact ⟨b, rfl, oo b ho, ds, vs, e2, p.pr b _ e3 (.inl rfl) (fun z => S.hO b z ho), S.cars0 p e4⟩
    | false =>
      rw [hk] at q
      exact S.car p q
  ap := S.ap
  tr := fun b z => by
    rcases z with z | z
    · by_cases hb : G.hd = some b
      · obtain ⟨_, _, _, _, _, _, e, _⟩ := hn b hb
        exact ⟨_, e⟩
      · obtain ⟨xs, e⟩ := S.tr b (.inl z)
        exact ⟨xs, p.pr b _ e (.inl rfl) hb⟩
    · exact tr b z
  bo := bo
  hn := hn
theorem HandI.keep {hd : Option Addr} {hc : Addr} {B : Addr → Prop} (h : HandI hd hc B H) (k : ∀ a o, H a = some o → H' a = some o) : HandI hd hc B H' := fun a e => by
  obtain ⟨b, i, l, m, n, cs, h3, h4, h5⟩ := h a e
  exact ⟨b, i, l, m, n, cs, k _ _ h3, k _ _ h4, h5⟩
/-- a new object -/
theorem upd_keep {p : Addr} {o : HO} (hp : H p = none) : ∀ a u, H a = some u → upd H p o a = some u := fun a u e => by
  rw [upd_ne (ne_of_none e hp)]
  exact e
theorem Stp.new {p : Addr} {o : HO} {hd : Option Addr} (hp : H p = none) : Stp true hd O H O (upd H p o) := ⟨fun a u e _ _ => upd_keep hp a u e, fun a z => .inl z⟩
theorem SR.new (S : SR G st σ H O) {p : Addr} {o : HO} (hp : H p = none) : SR G st σ (upd H p o) O := S.goes (Stp.new hp)
  (fun a z => by
    obtain ⟨xs, e⟩ := S.tr a (.inr z)
    exact ⟨xs, upd_keep hp a _ e⟩) S.bo (fun _ z => z) (S.hn.keep (upd_keep hp))
theorem Stp.newL {p : Addr} {o : HO} {hd : Option Addr} (hp : H p = none) : Stp true hd O H (fun b => O b ∨ b = p) (upd H p o) := ⟨fun a u e _ _ => upd_keep hp a u e, fun a z => z.elim .inl fun e => .inr (e ▸ hp)⟩
theorem SR.newL (S : SR G st σ H O) {p : Addr} {vs : List V} (hp : H p = none) : SR G st σ (upd H p (.lst vs)) (fun b => O b ∨ b = p) := S.goes (Stp.newL hp)
  (fun a z => by
    rcases z with z | z
    · obtain ⟨xs, e⟩ := S.tr a (.inr z)
      exact ⟨xs, upd_keep hp a _ e⟩
    · exact ⟨vs, by rw [z]; exact upd_same⟩)
  (fun a hb z => z.elim (S.bo a hb) fun e => by
    obtain ⟨xs, q⟩ := S.tr a (.inl hb)
    rw [e, hp] at q
    cases q)
  (fun _ z => .inl z) (S.hn.keep (upd_keep hp))
/-- a new list is owned by nobody's slot -/
theorem SR.fresh (S : SR G st σ H O) {p : Addr} (hp : H p = none) : ∀ i d', G.kd i = true → st[i]? = some (some d') → σ[i]? ≠ some (some (.ref p)) := fun i d' hk e z => by
  obtain ⟨v, e1, q⟩ := S.val i d' e
  rw [hk] at q
  obtain ⟨b, rfl, ho, _⟩ := q
  rw [z] at e1
  cases e1
  obtain ⟨xs, q⟩ := S.tr _ (.inr ho)
  rw [hp] at q
  cases q
/-- the end of a rule that makes a new list -/
theorem end_lst (S : SR G st σ H O) {p : Addr} {vs : List V} {ds : List D} (hp : H p = none) (h : Shs G.K H (G.F O) vs ds) :
    Stp true G.hd O H (fun b => O b ∨ b = p) (upd H p (.lst vs)) ∧ SR G st σ (upd H p (.lst vs)) (fun b => O b ∨ b = p) ∧ VR G .ow st σ (upd H p (.lst vs)) (fun b => O b ∨ b = p) (.ref p) (.lst ds) :=
  ⟨Stp.newL hp, S.newL hp, p, rfl, ⟨.inr rfl, ds, vs, rfl, upd_same, S.cars0 (Stp.newL hp) h⟩, S.fresh hp⟩
theorem end_tup (S : SR G st σ H O) {p : Addr} {vs : List V} {ds : List D} (hp : H p = none) (h : Shs G.K H (G.F O) vs ds) :
    Stp true G.hd O H O (upd H p (.tup vs)) ∧ SR G st σ (upd H p (.tup vs)) O ∧ VR G .sh st σ (upd H p (.tup vs)) O (.ref p) (.tup ds) :=
  ⟨Stp.new hp, S.new hp, .inl (.tup (.inl (.inl upd_same)) (S.cars0 (Stp.new (o := .tup vs) hp) h))⟩
/-- what is lent is carried over a pure step -/
theorem SR.carB (S : SR G st σ H O) (p : Stp true G.hd O H O' H') (h : VR G .br st σ H O v d) : VR G .br st' σ' H' O' v d := by
  rcases h with h | ⟨b, ds, vs, e1, e2, e3, e4, e5⟩
  · exact .inl (S.car p h)
  · refine .inr ⟨b, ds, vs, e1, e2, e3, ?_, S.cars0 p e5⟩
    rcases e4 with e4 | ⟨o, e4⟩
    · exact .inl (p.pr b _ e4 (.inl rfl) fun z => e3 (S.hn b z).1.1)
    · exact .inr ⟨o, p.pr b _ e4 (.inl rfl) fun z => e3 (S.hn b z).1.1⟩
/-! readings of kinds -/
theorem VR.int {n : Int} (h : VR G .br st σ H O v (.int n)) : v = .int n := by
  rcases h with (h | ⟨e, _⟩) | ⟨_, _, _, _, e, _⟩
  · cases h; rfl
  · cases e
  · cases e
theorem VR.bl {b : Bool} (h : VR G .br st σ H O v (.bl b)) : v = .bl b := by
  rcases h with (h | ⟨e, _⟩) | ⟨_, _, _, _, e, _⟩
  · cases h; rfl
  · cases e
  · cases e
theorem VR.non (h : VR G .br st σ H O v .non) : v = .non := by
  rcases h with (h | ⟨e, _⟩) | ⟨_, _, _, _, e, _⟩
  · cases h; rfl
  · cases e
  · cases e
theorem VR.str {x : Str} (h : VR G .br st σ H O v (.str x)) : v = .str x ∧ strOkB x = true := by
  rcases h with (h | ⟨e, _⟩) | ⟨_, _, _, _, e, _⟩
  · cases h; exact ⟨rfl, by assumption⟩
  · cases e
  · cases e
theorem VR.tup {ds : List D} (h : VR G .br st σ H O v (.tup ds)) : ∃ a vs, v = .ref a ∧ SqT G.K H a vs ∧ Shs G.K H (G.F O) vs ds := by
  rcases h with (h | ⟨e, _⟩) | ⟨_, _, _, _, e, _⟩
  · cases h; exact ⟨_, _, rfl, by assumption, by assumption⟩
  · cases e
  · cases e
theorem VR.lst {ds : List D} (h : VR G .br st σ H O v (.lst ds)) : ∃ a vs, v = .ref a ∧ Rd H a (.lst vs) ∧ Shs G.K H (G.F O) vs ds := by
  rcases h with (h | ⟨e, _⟩) | ⟨_, _, _, e1, e, _, e4, e5⟩
  · cases h; exact ⟨_, _, rfl, by assumption, by assumption⟩
  · cases e
  · cases e; exact ⟨_, _, e1, e4, e5⟩
end
end EV
/-! expressions -/
namespace EV
open PySem PySem.Spec PyProof.Rows L2
abbrev ME := AS → R (D × AS)
def mK (d : D) : ME := fun st => .ok (d, st)
def mV (i : Nat) : ME := fun st => match getS st i with | some d => .ok (d, st) | none => .bad
def mM (i : Nat) : ME := fun st => match getS st i with | some d => .ok (d, st.set i none) | none => .bad
def m1 (op : D → Option D) (m : ME) : ME := fun st => (m st).bind fun p => match op p.1 with | some d => .ok (d, p.2) | none => .bad
def m2 (op : D → D → Option D) (m n : ME) : ME := fun st => (m st).bind fun p => (n p.2).bind fun q => match op p.1 q.1 with | some d => .ok (d, q.2) | none => .bad
section
variable {X : Cx} {G : Cn} {k : Kd} {pu : Bool}
theorem e_k {e : Expr} {v : V} {d : D} (h : PE X e (tC v)) (hs : ∀ H O, ShR G.K G.hd H (G.F O) v d) : PE X e (T G .sh true (mK d)) := PE.weak h fun σ H Q q => by
  obtain ⟨st, O, S, q⟩ := q
  exact q v H O Stp.refl S (hs H O)
theorem w_v {i : Nat} (hk : G.kd i = false) (σ : L2.St) (H : Hp) (Q : VK) (q : T G .sh true (mV i) σ H Q) : tVar i σ H Q := by
  obtain ⟨st, O, S, q⟩ := q
  unfold mV at q
  cases e : getS st i with
  | none => rw [e] at q; exact q.elim
  | some d =>
    rw [e] at q
    obtain ⟨v, e1, r⟩ := S.val i d (getS_some e)
    rw [hk] at r
    exact ⟨v, e1, q v H O Stp.refl S r⟩
theorem w_b {i : Nat} (hk : G.kd i = true) (σ : L2.St) (H : Hp) (Q : VK) (q : T G .br true (mV i) σ H Q) : tVar i σ H Q := by
  obtain ⟨st, O, S, q⟩ := q
  unfold mV at q
  cases e : getS st i with
  | none => rw [e] at q; exact q.elim
  | some d =>
    rw [e] at q
    obtain ⟨v, e1, r⟩ := S.val i d (getS_some e)
    rw [hk] at r
    obtain ⟨a, rfl, ho, ds, vs, e2, e3, e4⟩ := r
    exact ⟨_, e1, q _ H O Stp.refl S (.inr ⟨a, ds, vs, rfl, e2, fun z => S.bo a z ho, .inl e3, e4⟩)⟩
theorem w_m {i : Nat} (hk : G.kd i = true) (σ : L2.St) (H : Hp) (Q : VK) (q : T G .ow true (mM i) σ H Q) : tVar i σ H Q := by
  obtain ⟨st, O, S, q⟩ := q
  unfold mM at q
  cases e : getS st i with
  | none => rw [e] at q; exact q.elim
  | some d =>
    rw [e] at q
    obtain ⟨v, e1, r⟩ := S.val i d (getS_some e)
    rw [hk] at r
    obtain ⟨a, rfl, r⟩ := r
    refine ⟨_, e1, q _ H O Stp.refl S.kill ⟨a, rfl, r, fun j d' hj e2 e3 => ?_⟩⟩
    rcases set_some e2 with ⟨_, z, _⟩ | ⟨ne, e2⟩
    · cases z
    · exact S.ap i j d d' a ne hk hj (getS_some e) e2 e1 e3
/-! one and two operands -/
def U1 (G : Cn) (k : Kd) (op : D → Option D) (r : V → Hp → VK → Prop) : Prop := ∀ {st : AS} {σ : L2.St} {H : Hp} {O : Addr → Prop} {v : V} {d d' : D} {Q : VK}, SR G st σ H O → VR G .br st σ H O v d → op d = some d' →
  (∀ v' H' O', Stp true G.hd O H O' H' → SR G st σ H' O' → VR G k st σ H' O' v' d' → Q v' H') → r v H Q
def U2 (G : Cn) (k : Kd) (op : D → D → Option D) (r : R2) : Prop := ∀ {st : AS} {σ : L2.St} {H : Hp} {O : Addr → Prop} {v w : V} {d e d' : D} {Q : VK}, SR G st σ H O → VR G .br st σ H O v d → VR G .br st σ H O w e → op d e = some d' →
  (∀ v' H' O', Stp true G.hd O H O' H' → SR G st σ H' O' → VR G k st σ H' O' v' d' → Q v' H') → r v w H Q
theorem w_1 {op : D → Option D} {r : V → Hp → VK → Prop} {m : ME} (hu : U1 G k op r) (σ : L2.St) (H : Hp) (Q : VK) (q : T G k true (m1 op m) σ H Q) : tUn r (T G .br true m) σ H Q := by
  obtain ⟨st, O, S, q⟩ := q
  refine ⟨st, O, S, R.all_mono (fun p q v H1 O1 s1 S1 r1 => ?_) (R.all_bind q)⟩
  cases e : op p.1 with
  | none => rw [e] at q; exact q.elim
  | some d =>
    rw [e] at q
    exact hu S1 r1 e fun v' H' O' s2 S2 r2 => q v' H' O' (s1.trans s2 S2.hO) S2 r2
theorem w_2 {op : D → D → Option D} {r : R2} {m n : ME} (hu : U2 G k op r) (σ : L2.St) (H : Hp) (Q : VK) (q : T G k true (m2 op m n) σ H Q) : tOp r (T G .br true m) (T G .br true n) σ H Q := by
  obtain ⟨st, O, S, q⟩ := q
  refine ⟨st, O, S, R.all_mono (fun p q v H1 O1 s1 S1 r1 => ?_) (R.all_bind q)⟩
  refine ⟨p.2, O1, S1, R.all_mono (fun p2 q w H2 O2 s2 S2 r2 => ?_) (R.all_bind q)⟩
  cases e : op p.1 p2.1 with
  | none => rw [e] at q; exact q.elim
  | some d =>
    rw [e] at q
    exact hu S2 (S1.carB s2 r1) r2 e fun v' H' O' s3 S3 r3 => q v' H' O' ((s1.trans s2 S2.hO).trans s3 S3.hO) S3 r3
end
/-! ints -/
def oI (f : Int → Int → Option D) : D → D → Option D
  | .int i, .int j => f i j
  | _, _ => none
section
variable {X : Cx} {G : Cn}
theorem u_I {f : Int → Int → Option D} {C : Int → Int → Prop} {g : Int → Int → V} (h : ∀ i j d, f i j = some d → C i j ∧ ∀ H O, ShR G.K G.hd H (G.F O) (g i j) d) : U2 G .sh (oI f) (rI C g) := by
  intro st σ H O v w d e d' Q S hv hw ho q
  cases d with
  | int i =>
    cases e with
    | int j =>
      obtain ⟨c, r⟩ := h i j d' ho
      exact ⟨i, j, hv.int, hw.int, c, q _ H O Stp.refl S (r H O)⟩
    | _ => cases ho
  | _ => cases ho
theorem u_I0 {f : Int → Int → Option D} {g : Int → Int → V} (h : ∀ i j d, f i j = some d → ∀ H O, ShR G.K G.hd H (G.F O) (g i j) d) : U2 G .sh (oI f) (rI0 g) := by
  intro st σ H O v w d e d' Q S hv hw ho q
  cases d with
  | int i =>
    cases e with
    | int j => exact ⟨i, j, hv.int, hw.int, q _ H O Stp.refl S (h i j d' ho H O)⟩
    | _ => cases ho
  | _ => cases ho
theorem U2.or_l {k : Kd} {op : D → D → Option D} {r r' : R2} (h : U2 G k op r) : U2 G k op (fun x y H Q => r x y H Q ∨ r' x y H Q) := fun S a b c q => .inl (h S a b c q)
theorem U2.or_r {k : Kd} {op : D → D → Option D} {r r' : R2} (h : U2 G k op r') : U2 G k op (fun x y H Q => r x y H Q ∨ r' x y H Q) := fun S a b c q => .inr (h S a b c q)
def okB (b : Bool) : D → Option D := fun d => match b with | true => some d | false => none
def oSub : D → D → Option D := oI fun i j => some (.int (i - j))
def small64B (i : Int) : Bool := decide (-(2 ^ 64) < i) && decide (i < 2 ^ 64)
def oMul : D → D → Option D := oI fun i j => if small64B i || small64B j then some (.int (i * j)) else none
def divB (j : Int) : Bool := decide (j ≠ 0) && decide (j.natAbs < 1073741824)
def oDiv : D → D → Option D := oI fun i j => if divB j then some (.int (i.fdiv j)) else none
def oMod : D → D → Option D := oI fun i j => if decide (j ≠ 0) then some (.int (i.fmod j)) else none
theorem u_sub : U2 G .sh oSub (rI0 fun i j => .int (i - j)) := u_I0 fun i j d e H O => by cases e; exact .inl (.int _)
theorem u_mul : U2 G .sh oMul (rI CMul fun i j => .int (i * j)) := u_I fun i j d e => by
  split at e
  · rename_i h
    cases e
    refine ⟨?_, fun H O => .inl (.int _)⟩
    simpa [small64B, CMul] using h
  · cases e
theorem u_div : U2 G .sh oDiv (rI CDivN fun i j => .int (i.fdiv j)) := u_I fun i j d e => by
  split at e
  · rename_i h
    cases e
    refine ⟨?_, fun H O => .inl (.int _)⟩
    simpa [divB, CDivN] using h
  · cases e
theorem u_mod : U2 G .sh oMod (rI (fun _ j => j ≠ 0) fun i j => .int (i.fmod j)) := u_I fun i j d e => by
  split at e
  · rename_i h
    cases e
    exact ⟨of_decide_eq_true h, fun H O => .inl (.int _)⟩
  · cases e
def oCmp (p : Int → Int → Bool) : D → D → Option D := oI fun i j => some (.bl (p i j))
theorem u_cmp {p : Int → Int → Bool} : U2 G .sh (oCmp p) (rI0 fun i j => .bl (p i j)) := u_I0 fun i j d e H O => by cases e; exact .inl (.bl _)
/-! + of ints, tuples, texts -/
def lenOk (n : Nat) : Bool := Nat.ble n 16000000
theorem lenOk_le {n : Nat} (h : lenOk n = true) : n < sizeLine := by
  have : n ≤ 16000000 := Nat.le_of_ble_eq_true h
  rw [sizeLine_eq]; omega
def oAdd : D → D → Option D
  | .int i, .int j => some (.int (i + j))
  | .tup xs, .tup ys => if lenOk (xs.length + ys.length) then some (.tup (xs ++ ys)) else none
  | .str x, .str y => if lenOk (x.length + y.length) && strOkB (x ++ y) then some (.str (x ++ y)) else none
  | _, _ => none
theorem u_add : U2 G .sh oAdd (fun x y H Q => rI0 (fun i j => .int (i + j)) x y H Q ∨ (rCatA G.K x y H Q ∨ ∃ i j, x = .str i ∧ y = .str j ∧ i.length + j.length ≤ sizeLine ∧ Q (.str (i ++ j)) H)) := by
  intro st σ H O v w d e d' Q S hv hw ho q
  unfold oAdd at ho
  split at ho
  · cases ho
    exact .inl ⟨_, _, hv.int, hw.int, q _ H O Stp.refl S (.inl (.int _))⟩
  · split at ho
    · rename_i hl
      cases ho
      obtain ⟨a, vs, rfl, ha, hvs⟩ := hv.tup
      obtain ⟨b, ws, rfl, hb, hws⟩ := hw.tup
      have hz := Nat.le_of_lt (lenOk_le hl)
      refine .inr (.inl ⟨a, b, vs, ws, rfl, rfl, ha, hb, by rw [hvs.length, hws.length]; exact hz, fun e => ?_, fun ne e => ?_, fun n1 n2 p hp => ?_⟩)
      · subst e
        have := hvs.length
        cases hvs
        exact q _ H O Stp.refl S (.inl (.tup hb hws))
      · subst e
        cases hws
        rw [List.append_nil] at q
        exact q _ H O Stp.refl S (.inl (.tup ha hvs))
      · obtain ⟨s1, S1, r1⟩ := end_tup S hp (hvs.append hws)
        exact q _ _ _ s1 S1 r1
    · cases ho
  · split at ho
    · rename_i hl
      cases ho
      obtain ⟨rfl, _⟩ := hv.str
      obtain ⟨rfl, _⟩ := hw.str
      rw [Bool.and_eq_true] at hl
      exact .inr (.inr ⟨_, _, rfl, rfl, Nat.le_of_lt (lenOk_le hl.1), q _ H O Stp.refl S (.inl (.str _ hl.2))⟩)
    · cases ho
  · cases ho
/-- xs + ys of lists: a new one -/
def oCat : D → D → Option D
  | .lst xs, .lst ys => if lenOk (xs.length + ys.length) then some (.lst (xs ++ ys)) else none
  | _, _ => none
/-! one operand -/
def oNeg : D → Option D
  | .int i => some (.int (-i))
  | _ => none
theorem u_neg : U1 G .sh oNeg (rU fun i => .int (-i)) := by
  intro st σ H O v d d' Q S hv ho q
  cases d with
  | int i => cases ho; exact ⟨i, hv.int, q _ H O Stp.refl S (.inl (.int _))⟩
  | _ => cases ho
def oLen : D → Option D
  | .lst xs => some (.int xs.length)
  | .tup xs => some (.int xs.length)
  | _ => none
theorem Rd.sql {K : PySem.W.Frag} {H : Hp} {a : Addr} {vs : List V} (h : Rd H a (.lst vs)) : SqL K H a vs := .inl h
theorem u_len : U1 G .sh oLen (fun x H Q => ∃ p ys, [x] = [.ref p] ∧ (SqL G.K H p ys ∨ SqT G.K H p ys) ∧ Q (.int ys.length) H) := by
  intro st σ H O v d d' Q S hv ho q
  cases d with
  | lst xs =>
    cases ho
    obtain ⟨a, vs, rfl, ha, hvs⟩ := hv.lst
    exact ⟨a, vs, rfl, .inl (Rd.sql ha), by rw [hvs.length]; exact q _ H O Stp.refl S (.inl (.int _))⟩
  | tup xs =>
    cases ho
    obtain ⟨a, vs, rfl, ha, hvs⟩ := hv.tup
    exact ⟨a, vs, rfl, .inr ha, by rw [hvs.length]; exact q _ H O Stp.refl S (.inl (.int _))⟩
  | _ => cases ho
def ints? : List D → Option (List Int)
  | [] => some []
  | .int i :: r => match ints? r with | some l => some (i :: l) | none => none
  | _ => none
theorem ints_of {K : PySem.W.Frag} {H : Hp} {F : Addr → Prop} : ∀ {vs : List V} {ds : List D} {ns : List Int}, ints? ds = some ns → Shs K H F vs ds → vs = ns.map V.int
  | _, [], _, e, h => by cases h; cases e; rfl
  | _, d :: r, _, e, h => by
    cases h with
    | cons h1 h2 =>
      cases d with
      | int i =>
        unfold ints? at e
        split at e
        · rename_i l hl
          cases e
          cases h1
          rw [ints_of hl h2] <;> rfl
        · cases e
      | _ => cases e
def bls? : List D → Option (List Bool)
  | [] => some []
  | .bl i :: r => match bls? r with | some l => some (i :: l) | none => none
  | _ => none
theorem bls_of {K : PySem.W.Frag} {H : Hp} {F : Addr → Prop} : ∀ {vs : List V} {ds : List D} {ns : List Bool}, bls? ds = some ns → Shs K H F vs ds → vs = ns.map V.bl
  | _, [], _, e, h => by cases h; cases e; rfl
  | _, d :: r, _, e, h => by
    cases h with
    | cons h1 h2 =>
      cases d with
      | bl i =>
        unfold bls? at e
        split at e
        · rename_i l hl
          cases e
          cases h1
          rw [bls_of hl h2] <;> rfl
        · cases e
      | _ => cases e
def sumI : List Int → Int
  | [] => 0
  | x :: r => x + sumI r
theorem sumI_eq : ∀ l : List Int, l.sum = sumI l
  | [] => rfl
  | x :: r => by rw [List.sum_cons, sumI_eq r]; rfl
def oAll : D → Option D
  | .lst xs => (bls? xs).map fun l => .bl (l.all id)
  | _ => none
def oAny : D → Option D
  | .lst xs => (bls? xs).map fun l => .bl (l.any id)
  | _ => none
theorem u_all : U1 G .sh oAll (fun x H Q => rAll G.K [x] H Q) := by
  intro st σ H O v d d' Q S hv ho q
  cases d with
  | lst xs =>
    obtain ⟨l, hl, rfl⟩ := Option.map_eq_some_iff.mp ho
    obtain ⟨a, vs, rfl, ha, hvs⟩ := hv.lst
    exact ⟨a, l, rfl, by rw [← bls_of hl hvs]; exact Rd.sql ha, q _ H O Stp.refl S (.inl (.bl _))⟩
  | _ => cases ho
theorem u_any : U1 G .sh oAny (fun x H Q => rAny G.K [x] H Q) := by
  intro st σ H O v d d' Q S hv ho q
  cases d with
  | lst xs =>
    obtain ⟨l, hl, rfl⟩ := Option.map_eq_some_iff.mp ho
    obtain ⟨a, vs, rfl, ha, hvs⟩ := hv.lst
    exact ⟨a, l, rfl, by rw [← bls_of hl hvs]; exact Rd.sql ha, q _ H O Stp.refl S (.inl (.bl _))⟩
  | _ => cases ho
def oSum : D → Option D
  | .lst xs => (ints? xs).map fun l => .int (sumI l)
  | .tup xs => (ints? xs).map fun l => .int (sumI l)
  | _ => none
def rSum2 (K : PySem.W.Frag) : List V → Hp → VK → Prop := fun vs H Q => ∃ (a : Addr) (ns : List Int), vs = [V.ref a] ∧ (SqL K H a (ns.map V.int) ∨ SqT K H a (ns.map V.int)) ∧ Q (.int ns.sum) H
theorem u_sum : U1 G .sh oSum (fun x H Q => rSum2 G.K [x] H Q) := by
  intro st σ H O v d d' Q S hv ho q
  cases d with
  | lst xs =>
    obtain ⟨l, hl, rfl⟩ := Option.map_eq_some_iff.mp ho
    obtain ⟨a, vs, rfl, ha, hvs⟩ := hv.lst
    exact ⟨a, l, rfl, by rw [← ints_of hl hvs]; exact .inl (Rd.sql ha), by rw [sumI_eq]; exact q _ H O Stp.refl S (.inl (.int _))⟩
  | tup xs =>
    obtain ⟨l, hl, rfl⟩ := Option.map_eq_some_iff.mp ho
    obtain ⟨a, vs, rfl, ha, hvs⟩ := hv.tup
    exact ⟨a, l, rfl, by rw [← ints_of hl hvs]; exact .inr ha, by rw [sumI_eq]; exact q _ H O Stp.refl S (.inl (.int _))⟩
  | _ => cases ho
def oTuple : D → Option D
  | .lst xs => some (.tup xs)
  | .tup xs => some (.tup xs)
  | _ => none
theorem u_tuple : U1 G .sh oTuple (fun x H Q => ∃ p ys, [x] = [V.ref p] ∧ ((SqL G.K H p ys ∧ ∀ (l : Addr), H l = none → Q (V.ref l) (upd H l (HO.tup ys))) ∨ SqT G.K H p ys ∧ Q (V.ref p) H)) := by
  intro st σ H O v d d' Q S hv ho q
  cases d with
  | lst xs =>
    cases ho
    obtain ⟨a, vs, rfl, ha, hvs⟩ := hv.lst
    refine ⟨a, vs, rfl, .inl ⟨Rd.sql ha, fun l hl => ?_⟩⟩
    obtain ⟨s1, S1, r1⟩ := end_tup S hl hvs
    exact q _ _ _ s1 S1 r1
  | tup xs =>
    cases ho
    obtain ⟨a, vs, rfl, ha, hvs⟩ := hv.tup
    exact ⟨a, vs, rfl, .inr ⟨ha, q _ H O Stp.refl S (.inl (.tup ha hvs))⟩⟩
  | _ => cases ho
def oList : D → Option D
  | .lst xs => some (.lst xs)
  | .tup xs => some (.lst xs)
  | _ => none
theorem u_list : U1 G .ow oList (fun x H Q => ∃ p ys, [x] = [V.ref p] ∧ (SqL G.K H p ys ∨ SqT G.K H p ys) ∧ ∀ (l : Addr), H l = none → Q (V.ref l) (upd H l (HO.lst ys))) := by
  intro st σ H O v d d' Q S hv ho q
  cases d with
  | lst xs =>
    cases ho
    obtain ⟨a, vs, rfl, ha, hvs⟩ := hv.lst
    refine ⟨a, vs, rfl, .inl (Rd.sql ha), fun l hl => ?_⟩
    obtain ⟨s1, S1, r1⟩ := end_lst S hl hvs
    exact q _ _ _ s1 S1 r1
  | tup xs =>
    cases ho
    obtain ⟨a, vs, rfl, ha, hvs⟩ := hv.tup
    refine ⟨a, vs, rfl, .inr ha, fun l hl => ?_⟩
    obtain ⟨s1, S1, r1⟩ := end_lst S hl hvs
    exact q _ _ _ s1 S1 r1
  | _ => cases ho
def oInt : D → Option D
  | .int i => some (.int i)
  | .bl b => some (.int (if b then 1 else 0))
  | _ => none
theorem u_int : U1 G .sh oInt (fun x H Q => (∃ i, [x] = [V.int i] ∧ Q (.int i) H) ∨ ∃ k, [x] = [V.bl k] ∧ Q (.int (if k then 1 else 0)) H) := by
  intro st σ H O v d d' Q S hv ho q
  cases d with
  | int i => cases ho; exact .inl ⟨i, by rw [hv.int], q _ H O Stp.refl S (.inl (.int _))⟩
  | bl b => cases ho; exact .inr ⟨b, by rw [hv.bl], q _ H O Stp.refl S (.inl (.int _))⟩
  | _ => cases ho
def oAbs : D → Option D
  | .int i => some (.int (if i < 0 then -i else i))
  | _ => none
theorem u_abs : U1 G .sh oAbs (fun x H Q => ∃ i, [x] = [V.int i] ∧ Q (.int (if i < 0 then -i else i)) H) := by
  intro st σ H O v d d' Q S hv ho q
  cases d with
  | int i => cases ho; exact ⟨i, by rw [hv.int], q _ H O Stp.refl S (.inl (.int _))⟩
  | _ => cases ho
/-! items -/
def ixD (xs : List D) (i : Int) : Option D := match i with
  | .ofNat n => xs[n]?
  | .negSucc n => if n < xs.length then xs[xs.length - 1 - n]? else none
def oIx : D → D → Option D
  | .lst xs, .int i => ixD xs i
  | .tup xs, .int i => ixD xs i
  | _, _ => none
end
end EV
/-! deep data: ==, in; sums of tuples -/
namespace EV
open PySem PySem.Spec PyProof.Rows L2
mutual
def toP : D → PyData
  | .non => .none
  | .bl b => .bool b
  | .int i => .int i
  | .str x => .str x
  | .tup xs => .tuple (toPs xs)
  | .lst xs => .list (toPs xs)
  | .hnd => .none
  | .dic => .none
def toPs : List D → List PyData
  | [] => []
  | x :: xs => toP x :: toPs xs
end
theorem toPs_map : ∀ xs : List D, toPs xs = xs.map toP
  | [] => by rw [toPs]; rfl
  | x :: xs => by rw [toPs, toPs_map xs]; rfl
/-- less deep than n, no hand in it -/
def dok : Nat → D → Bool
  | 0, _ => false
  | n + 1, d => match d with
    | .tup xs => xs.all (dok n)
    | .lst xs => xs.all (dok n)
    | .hnd => false
    | .dic => false
    | _ => true
def eqs (f : D → D → Bool) : List D → List D → Bool
  | [], ys => match ys with | [] => true | _ => false
  | x :: xs, ys => match ys with | [] => false | y :: ys => match f x y with | true => eqs f xs ys | false => false
def eqf : Nat → D → D → Bool
  | 0, _, _ => false
  | n + 1, a, b => match a with
    | .int i => match b with
      | .int j => decide (i = j)
      | .bl c => decide (i = if c then 1 else 0)
      | _ => false
    | .tup xs => match b with
      | .tup ys => eqs (eqf n) xs ys
      | _ => false
    | .lst xs => match b with
      | .lst ys => eqs (eqf n) xs ys
      | _ => false
    | .non => match b with
      | .non => true
      | _ => false
    | .bl c => match b with
      | .bl e => c == e
      | .int j => decide ((if c then 1 else 0) = j)
      | _ => false
    | .str x => match b with
      | .str y => x == y
      | _ => false
    | .hnd => false
    | .dic => false
/-- no hand within, no dict -/
inductive Pl : D → Prop
  | non : Pl .non
  | bl (b : Bool) : Pl (.bl b)
  | int (i : Int) : Pl (.int i)
  | str (x : Str) : Pl (.str x)
  | tup {xs : List D} : (∀ x ∈ xs, Pl x) → Pl (.tup xs)
  | lst {xs : List D} : (∀ x ∈ xs, Pl x) → Pl (.lst xs)
mutual
theorem Sh.lay {K : PySem.W.Frag} {H : Hp} {F : Addr → Prop} : ∀ {v : V} {d : D}, Sh K H F v d → Pl d → (toP d).canLay0 = true
  | _, _, .non, _ => by simp [toP, PyData.canLay0]
  | _, _, .bl _, _ => by simp [toP, PyData.canLay0]
  | _, _, .int _, _ => by simp [toP, PyData.canLay0]
  | _, _, .str x h, _ => by rw [toP, PyData.canLay0]; exact h
  | _, _, .tup _ hs, .tup p => by rw [toP, PyData.canLay0]; exact Shs.lay hs p
  | _, _, .lst _ _ hs, .lst p => by rw [toP, PyData.canLay0]; exact Shs.lay hs p
  | _, .dic, .dic _, p => nomatch p
theorem Shs.lay {K : PySem.W.Frag} {H : Hp} {F : Addr → Prop} : ∀ {v : List V} {d : List D}, Shs K H F v d → (∀ x ∈ d, Pl x) → PyData.canLayAll0 (toPs d) = true
  | _, _, .nil, _ => by simp [toPs, PyData.canLayAll0]
  | _, _, .cons h hs, p => by rw [toPs, PyData.canLayAll0, Sh.lay h (p _ (by simp)), Shs.lay hs fun x hx => p x (by simp [hx])]; rfl
end
mutual
theorem Sh.dp {K : PySem.W.Frag} {H : Hp} {F : Addr → Prop} : ∀ {v : V} {d : D}, Sh K H F v d → Pl d → Dp K H v (toP d)
  | _, _, .non, _ => by rw [toP]; exact .non
  | _, _, .bl _, _ => by rw [toP]; exact .bl _
  | _, _, .int _, _ => by rw [toP]; exact .int _
  | _, _, .str x h, _ => by rw [toP]; exact .str _
  | _, _, .tup h hs, .tup p => by rw [toP]; exact .tup h (Shs.dp hs p)
  | _, _, .lst h _ hs, .lst p => by rw [toP]; exact .lst (.inl h) (Shs.dp hs p)
  | _, .dic, .dic _, p => nomatch p
theorem Shs.dp {K : PySem.W.Frag} {H : Hp} {F : Addr → Prop} : ∀ {v : List V} {d : List D}, Shs K H F v d → (∀ x ∈ d, Pl x) → DpAll K H v (toPs d)
  | _, _, .nil, _ => by rw [toPs]; exact .nil
  | _, _, .cons h hs, p => by rw [toPs]; exact .cons (Sh.dp h (p _ (by simp))) (Shs.dp hs fun x hx => p x (by simp [hx]))
end
/-- what is lent, if there is no hand and no dict in it -/
theorem VR.dp {G : Cn} {st : AS} {σ : L2.St} {H : Hp} {O : Addr → Prop} {v : V} {d : D} (h : VR G .br st σ H O v d) (hd : Pl d) : Dp G.K H v (toP d) ∧ (toP d).canLay0 = true := by
  rcases h with (h | ⟨e, _⟩) | ⟨a, ds, vs, rfl, rfl, _, e4, e5⟩
  · exact ⟨h.dp hd, h.lay hd⟩
  · subst e; cases hd
  · cases hd with
    | lst p =>
      rw [toP]
      exact ⟨.lst (.inl e4) (e5.dp p), by rw [PyData.canLay0]; exact e5.lay p⟩
theorem depthAll_le {n : Nat} : ∀ {xs : List PyData}, (∀ x ∈ xs, x.depth ≤ n) → PyData.depthAll xs ≤ n
  | [], _ => by rw [PyData.depthAll]; exact Nat.zero_le _
  | x :: xs, h => by
    rw [PyData.depthAll]
    exact Nat.max_le.mpr ⟨h x (by simp), depthAll_le (fun y hy => h y (by simp [hy]))⟩
theorem dok_depth : ∀ {n : Nat} {d : D}, dok n d = true → (toP d).depth ≤ n
  | 0, _, h => nomatch h
  | n + 1, d, h => by
    have all : ∀ xs : List D, xs.all (dok n) = true → PyData.depthAll (toPs xs) + 1 ≤ n + 1 := fun xs hx => by
      refine Nat.succ_le_succ (depthAll_le fun z hz => ?_)
      rw [toPs_map] at hz
      obtain ⟨w, hw, rfl⟩ := List.mem_map.mp hz
      exact dok_depth (List.all_eq_true.mp hx w hw)
    cases d with
    | tup xs => rw [toP, PyData.depth]; exact all xs h
    | lst xs => rw [toP, PyData.depth]; exact all xs h
    | hnd => cases h
    | dic => cases h
    | _ => rw [toP, PyData.depth] <;> omega
theorem dok_pl : ∀ {n : Nat} {d : D}, dok n d = true → Pl d
  | 0, _, h => nomatch h
  | n + 1, d, h => by
    cases d with
    | tup xs => exact .tup fun x hx => dok_pl (List.all_eq_true.mp (show xs.all (dok n) = true from h) x hx)
    | lst xs => exact .lst fun x hx => dok_pl (List.all_eq_true.mp (show xs.all (dok n) = true from h) x hx)
    | hnd => cases h
    | dic => cases h
    | non => exact .non
    | bl b => exact .bl b
    | int i => exact .int i
    | str x => exact .str x
theorem dok_ne {n : Nat} {d : D} (h : dok n d = true) : d ≠ .hnd := by
  rintro rfl
  cases n <;> cases h
theorem dec_int_eq (i j : Int) : decide (i = j) = (i == j) := by rw [Bool.beq_eq_decide_eq]
/-- the model's own == -/
theorem eqf_eqv : ∀ {n : Nat} {a b : D}, Pl a → Pl b → (dok n a = true ∨ dok n b = true) → eqf n a b = PyData.eqv (toP a) (toP b)
  | 0, _, _, _, _, h => h.elim (fun z => nomatch z) fun z => nomatch z
  | n + 1, a, b, pa, pb, h => by
    have go : ∀ xs ys : List D, (∀ x ∈ xs, Pl x) → (∀ x ∈ ys, Pl x) → (xs.all (dok n) = true ∨ ys.all (dok n) = true) → eqs (eqf n) xs ys = PyData.eqvAll (toPs xs) (toPs ys) := by
      intro xs
      induction xs with
      | nil => intro ys _ _ _; cases ys <;> simp [eqs, toPs, PyData.eqvAll]
      | cons x xs ih =>
        intro ys px py hh
        cases ys with
        | nil => simp [eqs, toPs, PyData.eqvAll]
        | cons y ys =>
          have e1 : eqf n x y = PyData.eqv (toP x) (toP y) := eqf_eqv (px x (by simp)) (py y (by simp)) (hh.imp (fun z => by rw [List.all_cons, Bool.and_eq_true] at z; exact z.1) fun z => by rw [List.all_cons, Bool.and_eq_true] at z; exact z.1)
          have e2 := ih ys (fun z hz => px z (by simp [hz])) (fun z hz => py z (by simp [hz])) (hh.imp (fun z => by rw [List.all_cons, Bool.and_eq_true] at z; exact z.2) fun z => by rw [List.all_cons, Bool.and_eq_true] at z; exact z.2)
          rw [toPs, toPs, PyData.eqvAll, ← e1, ← e2]
          show (match eqf n x y with | true => eqs (eqf n) xs ys | false => false) = _
          cases eqf n x y <;> rfl
    cases pa with
    | non => cases pb <;> simp [eqf, toP, PyData.eqv]
    | bl c => cases pb <;> simp [eqf, toP, PyData.eqv, dec_int_eq]
    | int i => cases pb <;> simp [eqf, toP, PyData.eqv, dec_int_eq]
    | str x => cases pb <;> simp [eqf, toP, PyData.eqv]
    | tup px =>
      cases pb with
      | tup py => rw [toP, toP, PyData.eqv]; exact go _ _ px py h
      | _ => simp [eqf, toP, PyData.eqv]
    | lst px =>
      cases pb with
      | lst py => rw [toP, toP, PyData.eqv]; exact go _ _ px py h
      | _ => simp [eqf, toP, PyData.eqv]
/-! ==, != -/
def isH : D → Bool
  | .hnd => true
  | _ => false
theorem isH_ne {d : D} (h : (!isH d) = true) : d ≠ .hnd := by
  rintro rfl
  cases h
def slowEq (f : Bool → Bool) (d e : D) : Option D := if (!isH d) && (!isH e) && (dok 60 e && dok 60 d) then some (.bl (f (eqf 60 d e))) else none
def oEqF (f : Bool → Bool) (d e : D) : Option D := match d with
  | .int i => match e with
    | .int j => some (.bl (f (decide (i = j))))
    | _ => slowEq f d e
  | _ => slowEq f d e
def rEqE (K : PySem.W.Frag) (f : Bool → Bool) : R2 := fun x y H Q => ∃ d e, Dp K H x d ∧ Dp K H y e ∧ d.canLay0 = true ∧ e.canLay0 = true ∧ min d.depth e.depth ≤ 64 ∧ Q (.bl (f (PyData.eqv d e))) H
section
variable {X : Cx} {G : Cn}
theorem op_eqE (hu : X.A.units + 64 < cLine) : OpR X (compareOp .Eq) (rEqE X.K id) := by
  intro pins s σ H x y v u Q I rx ry h
  obtain ⟨d, e, hd, he, sd, se, hm, q⟩ := h
  obtain ⟨as, r1⟩ := Dp.reads I d x v hd rx
  obtain ⟨bs, r2⟩ := Dp.reads I e y u he ry
  exact SeqAt.compareEq_reads r1 r2 sd se (by omega) ⟨.bl _, H, I, rfl, q⟩
theorem op_neE (hu : X.A.units + 64 < cLine) : OpR X (compareOp .NotEq) (rEqE X.K (fun b => !b)) := by
  intro pins s σ H x y v u Q I rx ry h
  obtain ⟨d, e, hd, he, sd, se, hm, q⟩ := h
  obtain ⟨as, r1⟩ := Dp.reads I d x v hd rx
  obtain ⟨bs, r2⟩ := Dp.reads I e y u he ry
  exact SeqAt.compareNe_reads r1 r2 sd se (by omega) ⟨.bl _, H, I, rfl, q⟩
theorem eq_core {st : AS} {σ : L2.St} {H : Hp} {O : Addr → Prop} {v w : V} {d e : D} {f : Bool → Bool} {Q : VK} (S : SR G st σ H O) (hv : VR G .br st σ H O v d) (hw : VR G .br st σ H O w e) (h1 : d ≠ .hnd) (h2 : e ≠ .hnd) (hk : (dok 60 e && dok 60 d) = true)
    (q : ∀ v' H' O', Stp true G.hd O H O' H' → SR G st σ H' O' → VR G .sh st σ H' O' v' (.bl (f (eqf 60 d e))) → Q v' H') : rEqE G.K f v w H Q := by
  rw [Bool.and_eq_true] at hk
  obtain ⟨a1, a2⟩ := hv.dp (dok_pl hk.2)
  obtain ⟨b1, b2⟩ := hw.dp (dok_pl hk.1)
  refine ⟨_, _, a1, b1, a2, b2, ?_, ?_⟩
  · have := dok_depth hk.1; omega
  · rw [← eqf_eqv (dok_pl hk.2) (dok_pl hk.1) (.inl hk.2)]
    exact q _ H O Stp.refl S (.inl (.bl _))
theorem int_core {st : AS} {σ : L2.St} {H : Hp} {O : Addr → Prop} {v w : V} {i j : Int} {f : Bool → Bool} {Q : VK} (S : SR G st σ H O) (hv : VR G .br st σ H O v (.int i)) (hw : VR G .br st σ H O w (.int j))
    (q : ∀ v' H' O', Stp true G.hd O H O' H' → SR G st σ H' O' → VR G .sh st σ H' O' v' (.bl (f (decide (i = j)))) → Q v' H') : rEqE G.K f v w H Q := by
  have e1 := hv.int
  have e2 := hw.int
  subst e1 e2
  refine ⟨.int i, .int j, .int _, .int _, by simp [PyData.canLay0], by simp [PyData.canLay0], by simp [PyData.depth], ?_⟩
  have : PyData.eqv (.int i) (.int j) = decide (i = j) := by rw [dec_int_eq, PyData.eqv]
  rw [this]
  exact q _ H O Stp.refl S (.inl (.bl _))
theorem u_eqF {f : Bool → Bool} : U2 G .sh (oEqF f) (rEqE G.K f) := by
  intro st σ H O v w d e d' Q S hv hw ho q
  have slow : slowEq f d e = some d' → rEqE G.K f v w H Q := fun ho => by
    unfold slowEq at ho
    split at ho
    · rename_i hk
      cases ho
      rw [Bool.and_eq_true, Bool.and_eq_true] at hk
      exact eq_core S hv hw (isH_ne hk.1.1) (isH_ne hk.1.2) hk.2 q
    · cases ho
  cases d with
  | int i =>
    cases e with
    | int j => cases ho; exact int_core S hv hw q
    | _ => exact slow ho
  | _ => exact slow ho
end
/-! in, not in -/
def memf (d : D) : List D → Bool
  | [] => false
  | x :: r => match eqf 60 x d with | true => true | false => memf d r
def oIn (f : Bool → Bool) (d e : D) : Option D := match e with
  | .lst xs => if dok 60 d && xs.all (dok 60) then some (.bl (f (memf d xs))) else none
  | .tup xs => if dok 60 d && xs.all (dok 60) then some (.bl (f (memf d xs))) else none
  | _ => none
def rInE (K : PySem.W.Frag) (f : Bool → Bool) : R2 := fun x y H Q => ∃ d ds, Dp K H x d ∧ (Dp K H y (.list ds) ∨ Dp K H y (.tuple ds)) ∧ d.canLay0 = true ∧ PyData.canLayAll0 ds = true ∧ d.depth ≤ 64 ∧ Q (.bl (f (ds.any fun z => PyData.eqv z d))) H
theorem memf_any {d : D} (pd : Pl d) (hk : dok 60 d = true) : ∀ {xs : List D}, (∀ x ∈ xs, Pl x) → memf d xs = (toPs xs).any fun z => PyData.eqv z (toP d)
  | [], _ => by rw [toPs]; rfl
  | x :: r, h => by
    rw [toPs, List.any_cons, ← memf_any pd hk (fun y hy => h y (by simp [hy])), ← eqf_eqv (h x (by simp)) pd (.inr hk)]
    show (match eqf 60 x d with | true => true | false => memf d r) = _
    cases eqf 60 x d <;> rfl
section
variable {X : Cx} {G : Cn}
theorem op_inE (hu : X.A.units + 70 < cLine) : OpR X (compareOp .In) (rInE X.K id) := by
  intro pins s σ H x y v u Q I rx ry h
  obtain ⟨d, ds, hd, he, sd, se, hm, q⟩ := h
  obtain ⟨as, r1⟩ := Dp.reads I d x v hd rx
  rcases he with he | he
  · obtain ⟨bs, r2⟩ := Dp.reads I (.list ds) y u he ry
    exact SeqAt.in_list_reads r2 r1 se sd (by omega) ⟨.bl _, H, I, rfl, q⟩
  · obtain ⟨bs, r2⟩ := Dp.reads I (.tuple ds) y u he ry
    exact SeqAt.in_tuple_reads r2 r1 se sd (by omega) ⟨.bl _, H, I, rfl, q⟩
theorem op_notInE (hu : X.A.units + 70 < cLine) : OpR X (compareOp .NotIn) (rInE X.K (fun b => !b)) := by
  intro pins s σ H x y v u Q I rx ry h
  obtain ⟨d, ds, hd, he, sd, se, hm, q⟩ := h
  obtain ⟨as, r1⟩ := Dp.reads I d x v hd rx
  rcases he with he | he
  · obtain ⟨bs, r2⟩ := Dp.reads I (.list ds) y u he ry
    exact SeqAt.notIn_list_reads r2 r1 se sd (by omega) ⟨.bl _, H, I, rfl, q⟩
  · obtain ⟨bs, r2⟩ := Dp.reads I (.tuple ds) y u he ry
    exact SeqAt.notIn_tuple_reads r2 r1 se sd (by omega) ⟨.bl _, H, I, rfl, q⟩
theorem u_in {f : Bool → Bool} : U2 G .sh (oIn f) (rInE G.K f) := by
  intro st σ H O v w d e d' Q S hv hw ho q
  have fin : ∀ xs : List D, ((∀ x ∈ xs, Pl x) → PyData.canLayAll0 (toPs xs) = true ∧ (Dp G.K H w (.list (toPs xs)) ∨ Dp G.K H w (.tuple (toPs xs)))) → (if dok 60 d && xs.all (dok 60) then some (D.bl (f (memf d xs))) else none) = some d' → rInE G.K f v w H Q := by
    intro xs hx ho
    split at ho
    · rename_i hk
      rw [Bool.and_eq_true] at hk
      obtain ⟨hk, hk2⟩ := hk
      have px : ∀ x ∈ xs, Pl x := fun x h => dok_pl (List.all_eq_true.mp hk2 x h)
      obtain ⟨lx, dx⟩ := hx px
      cases ho
      obtain ⟨a1, a2⟩ := hv.dp (dok_pl hk)
      refine ⟨_, _, a1, dx, a2, lx, Nat.le_trans (dok_depth hk) (by decide), ?_⟩
      rw [← memf_any (dok_pl hk) hk px]
      exact q _ H O Stp.refl S (.inl (.bl _))
    · cases ho
  cases e with
  | lst xs =>
    refine fin xs (fun px => ?_) ho
    obtain ⟨b1, b2⟩ := hw.dp (.lst px)
    rw [toP] at b1 b2
    rw [PyData.canLay0] at b2
    exact ⟨b2, .inl b1⟩
  | tup xs =>
    refine fin xs (fun px => ?_) ho
    obtain ⟨b1, b2⟩ := hw.dp (.tup px)
    rw [toP] at b1 b2
    rw [PyData.canLay0] at b2
    exact ⟨b2, .inr b1⟩
  | _ => cases ho
/-! is None, is True, is False -/
def oIsN (f : Bool → Bool) : D → Option D
  | .non => some (.bl (f true))
  | _ => some (.bl (f false))
theorem nonV {G : Cn} {st : AS} {σ : L2.St} {H : Hp} {O : Addr → Prop} {v : V} {d : D} (hv : VR G .br st σ H O v d) (hd : d ≠ .non) : decide (v = .non) = false := by
  refine decide_eq_false ?_
  rintro rfl
  rcases hv with (h | ⟨_, a, e, _⟩) | ⟨a, _, _, e, _⟩
  · cases h; exact hd rfl
  · cases e
  · cases e
theorem u_isN {f : Bool → Bool} : U1 G .sh (oIsN f) (fun x H Q => Q (.bl (f (decide (x = .non)))) H) := by
  intro st σ H O v d d' Q S hv ho q
  cases d with
  | non =>
    cases ho
    rw [hv.non]
    exact q _ H O Stp.refl S (.inl (.bl _))
  | _ =>
    cases ho
    rw [nonV hv (by intro z; cases z)]
    exact q _ H O Stp.refl S (.inl (.bl _))
/-! items -/
theorem ixD_atI {K : PySem.W.Frag} {H : Hp} {F : Addr → Prop} {vs : List V} {ds : List D} {i : Int} {d : D} (h : Shs K H F vs ds) (e : ixD ds i = some d) : ∃ v, atI vs i = some v ∧ Sh K H F v d := by
  cases i with
  | ofNat n =>
    obtain ⟨v, h1, h2⟩ := h.get (show ds[n]? = some d from e)
    refine ⟨v, ?_, h2⟩
    exact atI_nat h1
  | negSucc n =>
    have e : (if n < ds.length then ds[ds.length - 1 - n]? else none) = some d := e
    split at e
    · rename_i hl
      obtain ⟨v, h1, h2⟩ := h.get e
      refine ⟨v, ?_, h2⟩
      have hL := h.length
      have e1 : ixN vs.length (Int.negSucc n) = some (ds.length - 1 - n) := by
        unfold ixN
        rw [if_neg (by omega), if_pos (by omega)]
        congr 1
        omega
      unfold atI
      rw [e1]
      exact h1
    · cases e
theorem u_ix : U2 G .sh oIx (fun x y H Q => rIxL G.K x y H Q ∨ rIxT G.K x y H Q) := by
  intro st σ H O v w d e d' Q S hv hw ho q
  cases d with
  | lst xs =>
    cases e with
    | int i =>
      obtain ⟨a, vs, rfl, ha, hvs⟩ := hv.lst
      obtain ⟨x, h1, h2⟩ := ixD_atI hvs (show ixD xs i = some d' from ho)
      exact .inl ⟨a, vs, i, x, rfl, hw.int, Rd.sql ha, h1, q _ H O Stp.refl S (.inl h2)⟩
    | _ => cases ho
  | tup xs =>
    cases e with
    | int i =>
      obtain ⟨a, vs, rfl, ha, hvs⟩ := hv.tup
      obtain ⟨x, h1, h2⟩ := ixD_atI hvs (show ixD xs i = some d' from ho)
      exact .inr ⟨a, vs, i, x, rfl, hw.int, ha, h1, q _ H O Stp.refl S (.inl h2)⟩
    | _ => cases ho
  | _ => cases ho
/-! sum of a tuple too -/
theorem cr_sum2 (hc : X.calm = true) : CallR X (.builtin "sum") (rSum2 X.K) := by
  intro pins s σ H vs us Q I r h
  obtain ⟨a, ns, rfl, hs, q⟩ := h
  rcases hs with hs | hs
  · exact cr_sum hc pins s σ H _ us Q I r ⟨a, ns, rfl, hs, q⟩
  obtain ⟨its, rv, hl, _⟩ := I.tuple hs
  rw [Vals.ref1 r]
  have hi := rv.ints
  obtain ⟨xs, e⟩ := hi.allInts.items
  have hn : numsOf (intItems xs).toList = ns := by rw [← e]; exact hi.numsOf
  rw [nums_intItems] at hn
  have hT : s.heap.IsTuple a (intItems xs) := by rw [← e]; exact hl
  have hlt : a < s.heap.objs.size := hl.lt
  refine call_sum_walkG (wpAny_pyIter_tuple hT ?_)
  refine ⟨_, [s.heap.objs.size, a], [s.heap.objs.size], _, _, _, numAt xs, rfl, Walks.tuple (A := X.A.in1) (I.ok.hd hc) s.heap.objs.size a (Nat.ne_of_lt hlt) (intItems xs),
    ⟨⟨_, Heap.get?_push_size _ rfl, rfl, rfl⟩, hT.push _⟩, fun c hc' => ?_, fun _ _ => intItems_at, fun h' tk t' hk => ?_⟩
  · rw [Heap.size_push]
    rcases List.mem_cons.mp hc' with rfl | hc'
    · exact Nat.lt_succ_self _
    · rcases List.mem_cons.mp hc' with rfl | hc'
      · exact Nat.lt_succ_of_lt hlt
      · cases hc'
  · have hk' : ∀ b o, s.heap.get? b = some o → h'.get? b = some o := fun b o eb => hk b o (fun hm => by
      rcases List.mem_cons.mp hm with e1 | hm
      · exact absurd (e1 ▸ Heap.lt_size eb) (Nat.lt_irrefl _)
      · cases hm) (Heap.get?_push_of_some _ eb)
    have eS : preSum (numAt xs) (intItems xs).size = ns.sum := by
      rw [preSum_eq, List.take_of_length_le (by simp [intItems]), hn]
    rw [eS]
    exact ⟨.int _, H, I.kept hk', ⟨_, rfl⟩, q⟩
end
end EV
/-! sorted -/
namespace EV
open PySem PySem.Spec PyProof.Rows L2
/-! a sort by insertion is the model's own -/
section
variable {α : Type} {le : α → α → Bool}
def insR (gt : α → α → Bool) (d : α) : List α → List α
  | [] => [d]
  | x :: r => match gt d x with | true => x :: insR gt d r | false => d :: x :: r
def sortR (gt : α → α → Bool) : List α → List α
  | [] => []
  | x :: r => insR gt x (sortR gt r)
theorem mem_insR {gt : α → α → Bool} {d y : α} : ∀ {l : List α}, y ∈ insR gt d l ↔ y = d ∨ y ∈ l
  | [] => by simp [insR]
  | x :: r => by
    unfold insR
    cases gt d x with
    | true =>
      simp only [List.mem_cons, mem_insR (l := r)]
      constructor
      · rintro (h | h | h)
        · exact .inr (.inl h)
        · exact .inl h
        · exact .inr (.inr h)
      · rintro (h | h | h)
        · exact .inr (.inl h)
        · exact .inl h
        · exact .inr (.inr h)
    | false => simp only [List.mem_cons]
theorem mem_sortR {gt : α → α → Bool} {y : α} : ∀ {l : List α}, y ∈ sortR gt l ↔ y ∈ l
  | [] => by simp [sortR]
  | x :: r => by
    unfold sortR
    rw [mem_insR, mem_sortR (l := r), List.mem_cons]
theorem insR_len {gt : α → α → Bool} {d : α} : ∀ {l : List α}, (insR gt d l).length = l.length + 1
  | [] => rfl
  | x :: r => by
    unfold insR
    cases gt d x with
    | true => rw [List.length_cons, insR_len (l := r), List.length_cons]
    | false => rfl
theorem sortR_len {gt : α → α → Bool} : ∀ {l : List α}, (sortR gt l).length = l.length
  | [] => rfl
  | x :: r => by
    unfold sortR
    rw [insR_len, sortR_len (l := r), List.length_cons]
theorem insR_congr {gt gt' : α → α → Bool} {d : α} : ∀ {l : List α}, (∀ x ∈ l, gt d x = gt' d x) → insR gt d l = insR gt' d l
  | [], _ => rfl
  | x :: r, h => by
    unfold insR
    rw [h x (by simp), insR_congr (l := r) fun y hy => h y (by simp [hy])]
theorem sortR_congr {gt gt' : α → α → Bool} : ∀ {l : List α}, (∀ x ∈ l, ∀ y ∈ l, gt x y = gt' x y) → sortR gt l = sortR gt' l
  | [], _ => rfl
  | x :: r, h => by
    unfold sortR
    rw [sortR_congr (l := r) fun a ha b hb => h a (by simp [ha]) b (by simp [hb]), insR_congr (gt := gt) (gt' := gt') fun y hy => h x (by simp) y (by simp [mem_sortR.mp hy])]
theorem insR_sorted (T : W.TotalLe le) {d : α} : ∀ {l : List α}, l.Pairwise (fun a b => le a b = true) → (insR (fun a b => !le a b) d l).Pairwise (fun a b => le a b = true)
  | [], _ => by simp [insR]
  | x :: r, h => by
    have h' := List.pairwise_cons.mp h
    unfold insR
    cases e : (!le d x) with
    | true =>
      refine List.pairwise_cons.mpr ⟨fun y hy => ?_, insR_sorted T h'.2⟩
      rcases mem_insR.mp hy with rfl | hy
      · rcases T.total x y with q | q
        · exact q
        · rw [q] at e; cases e
      · exact h'.1 y hy
    | false =>
      have hdx : le d x = true := by simpa using e
      refine List.pairwise_cons.mpr ⟨fun y hy => ?_, h⟩
      rcases List.mem_cons.mp hy with rfl | hy
      · exact hdx
      · exact T.trans _ _ _ hdx (h'.1 y hy)
theorem insR_filter (T : W.TotalLe le) {d : α} (c : α) : ∀ {l : List α}, (insR (fun a b => !le a b) d l).filter (W.sameRank le c) = (d :: l).filter (W.sameRank le c)
  | [] => rfl
  | x :: r => by
    unfold insR
    cases e : (!le d x) with
    | true =>
      have hdx : le d x = false := by simpa using e
      rw [List.filter_cons, insR_filter T c (l := r)]
      cases hx : W.sameRank le c x with
      | false => simp [List.filter_cons, hx]
      | true =>
        have hd : W.sameRank le c d = false := by
          cases hd : W.sameRank le c d with
          | false => rfl
          | true =>
            unfold W.sameRank at hx hd
            rw [Bool.and_eq_true] at hx hd
            have := T.trans d c x hd.2 hx.1
            rw [hdx] at this
            cases this
        simp [List.filter_cons, hx, hd]
    | false => rfl
theorem sortR_eq (T : W.TotalLe le) (l : List α) : sortR (fun a b => !le a b) l = l.mergeSort le := by
  refine W.sort_unique T ?_ fun c => ?_
  · induction l with
    | nil => exact List.Pairwise.nil
    | cons x r ih => exact insR_sorted T ih
  · induction l with
    | nil => rfl
    | cons x r ih =>
      unfold sortR
      rw [insR_filter T c, List.filter_cons, List.filter_cons, ih]
end
/-! data that are alike -/
def isI : D → Bool | .int _ => true | _ => false
def isB : D → Bool | .bl _ => true | _ => false
def isS : D → Bool | .str _ => true | _ => false
def tups? : List D → Option (List (List D))
  | [] => some []
  | .tup xs :: r => (tups? r).map fun l => xs :: l
  | _ => none
def lsts? : List D → Option (List (List D))
  | [] => some []
  | .lst xs :: r => (lsts? r).map fun l => xs :: l
  | _ => none
def heads : List (List D) → List D
  | [] => []
  | [] :: r => heads r
  | (x :: _) :: r => x :: heads r
def tails : List (List D) → List (List D)
  | [] => []
  | [] :: r => tails r
  | (_ :: xs) :: r => xs :: tails r
def colsOk (f : List D → Bool) : Nat → List (List D) → Bool
  | 0, _ => false
  | m + 1, yss => match yss with
    | [] => true
    | _ => match f (heads yss) with | true => colsOk f m (tails yss) | false => false
def homog : Nat → List D → Bool
  | 0, _ => false
  | n + 1, xs => match xs with
    | [] => true
    | x :: _ => match x with
      | .int _ => xs.all isI
      | .bl _ => xs.all isB
      | .str _ => xs.all isS
      | .tup _ => match tups? xs with | some yss => colsOk (homog n) 100000 yss | none => false
      | .lst _ => match lsts? xs with | some yss => colsOk (homog n) 100000 yss | none => false
      | _ => false
theorem tups_mem : ∀ {xs : List D} {yss : List (List D)}, tups? xs = some yss → xs = yss.map D.tup
  | [], _, e => by cases e; rfl
  | d :: r, _, e => by
    cases d with
    | tup ys =>
      obtain ⟨l, h1, rfl⟩ := Option.map_eq_some_iff.mp (show (tups? r).map (fun l => ys :: l) = _ from e)
      rw [tups_mem h1]; rfl
    | _ => cases e
theorem lsts_mem : ∀ {xs : List D} {yss : List (List D)}, lsts? xs = some yss → xs = yss.map D.lst
  | [], _, e => by cases e; rfl
  | d :: r, _, e => by
    cases d with
    | lst ys =>
      obtain ⟨l, h1, rfl⟩ := Option.map_eq_some_iff.mp (show (lsts? r).map (fun l => ys :: l) = _ from e)
      rw [lsts_mem h1]; rfl
    | _ => cases e
theorem heads_mem : ∀ {yss : List (List D)} {x : D} {xs : List D}, x :: xs ∈ yss → x ∈ heads yss ∧ xs ∈ tails yss
  | [] :: r, x, xs, h => by
    rcases List.mem_cons.mp h with e | h
    · cases e
    · exact heads_mem (yss := r) h
  | (y :: ys) :: r, x, xs, h => by
    rcases List.mem_cons.mp h with e | h
    · cases e
      exact ⟨List.mem_cons_self, List.mem_cons_self⟩
    · exact ⟨List.mem_cons_of_mem _ (heads_mem (yss := r) h).1, List.mem_cons_of_mem _ (heads_mem (yss := r) h).2⟩
def AlkP (n : Nat) (xs : List D) : Prop := (∀ x ∈ xs, ∀ y ∈ xs, W.alike (toP x) (toP y) = true) ∧ ∀ x ∈ xs, dok n x = true
theorem cols_alike {n : Nat} {f : List D → Bool} (hf : ∀ xs, f xs = true → AlkP n xs) : ∀ {m : Nat} {yss : List (List D)}, colsOk f m yss = true → (∀ xs ∈ yss, ∀ ys ∈ yss, W.alikeAll (toPs xs) (toPs ys) = true) ∧ ∀ xs ∈ yss, xs.all (dok n) = true
  | 0, _, h => nomatch h
  | m + 1, [], _ => ⟨fun _ h => (nomatch h), fun _ h => nomatch h⟩
  | m + 1, z :: zs, h => by
    have h : (match f (heads (z :: zs)) with | true => colsOk f m (tails (z :: zs)) | false => false) = true := h
    cases e : f (heads (z :: zs)) with
    | false => rw [e] at h; cases h
    | true =>
      rw [e] at h
      obtain ⟨a1, a2⟩ := hf _ e
      obtain ⟨b1, b2⟩ := cols_alike hf (m := m) h
      generalize z :: zs = yss at *
      refine ⟨fun xs hx ys hy => ?_, fun xs hx => ?_⟩
      · cases xs with
        | nil => rw [toPs]; cases (toPs ys) <;> simp [W.alikeAll]
        | cons x xs =>
          cases ys with
          | nil => rw [toPs, toPs, W.alikeAll]
          | cons y ys =>
            rw [toPs, toPs, W.alikeAll, a1 x (heads_mem hx).1 y (heads_mem hy).1, b1 xs (heads_mem hx).2 ys (heads_mem hy).2]
            rfl
      · cases xs with
        | nil => rfl
        | cons x xs => rw [List.all_cons, a2 x (heads_mem hx).1, b2 xs (heads_mem hx).2]; rfl
theorem homog_alike : ∀ {n : Nat} {xs : List D}, homog n xs = true → AlkP n xs
  | 0, _, h => nomatch h
  | n + 1, [], _ => ⟨fun _ h => (nomatch h), fun _ h => nomatch h⟩
  | n + 1, x :: r, h => by
    cases x with
    | int i =>
      have h : (D.int i :: r).all isI = true := h
      have k : ∀ y ∈ D.int i :: r, ∃ j, y = .int j := fun y hy => by
        have := List.all_eq_true.mp h y hy
        cases y <;> first | exact ⟨_, rfl⟩ | cases this
      exact ⟨fun y hy z hz => by obtain ⟨a, rfl⟩ := k y hy; obtain ⟨b, rfl⟩ := k z hz; simp [toP, W.alike], fun y hy => by obtain ⟨a, rfl⟩ := k y hy; rfl⟩
    | bl i =>
      have h : (D.bl i :: r).all isB = true := h
      have k : ∀ y ∈ D.bl i :: r, ∃ j, y = .bl j := fun y hy => by
        have := List.all_eq_true.mp h y hy
        cases y <;> first | exact ⟨_, rfl⟩ | cases this
      exact ⟨fun y hy z hz => by obtain ⟨a, rfl⟩ := k y hy; obtain ⟨b, rfl⟩ := k z hz; simp [toP, W.alike], fun y hy => by obtain ⟨a, rfl⟩ := k y hy; rfl⟩
    | str i =>
      have h : (D.str i :: r).all isS = true := h
      have k : ∀ y ∈ D.str i :: r, ∃ j, y = .str j := fun y hy => by
        have := List.all_eq_true.mp h y hy
        cases y <;> first | exact ⟨_, rfl⟩ | cases this
      exact ⟨fun y hy z hz => by obtain ⟨a, rfl⟩ := k y hy; obtain ⟨b, rfl⟩ := k z hz; simp [toP, W.alike], fun y hy => by obtain ⟨a, rfl⟩ := k y hy; rfl⟩
    | tup ys =>
      have h : (match tups? (D.tup ys :: r) with | some yss => colsOk (homog n) 100000 yss | none => false) = true := h
      cases e : tups? (D.tup ys :: r) with
      | none => rw [e] at h; cases h
      | some yss =>
        rw [e] at h
        rw [tups_mem e]
        obtain ⟨b1, b2⟩ := cols_alike (n := n) (fun xs hx => homog_alike hx) h
        refine ⟨fun y hy z hz => ?_, fun y hy => ?_⟩
        · obtain ⟨a, ha, rfl⟩ := List.mem_map.mp hy
          obtain ⟨b, hb, rfl⟩ := List.mem_map.mp hz
          rw [toP, toP, W.alike]
          exact b1 a ha b hb
        · obtain ⟨a, ha, rfl⟩ := List.mem_map.mp hy
          exact b2 a ha
    | lst ys =>
      have h : (match lsts? (D.lst ys :: r) with | some yss => colsOk (homog n) 100000 yss | none => false) = true := h
      cases e : lsts? (D.lst ys :: r) with
      | none => rw [e] at h; cases h
      | some yss =>
        rw [e] at h
        rw [lsts_mem e]
        obtain ⟨b1, b2⟩ := cols_alike (n := n) (fun xs hx => homog_alike hx) h
        refine ⟨fun y hy z hz => ?_, fun y hy => ?_⟩
        · obtain ⟨a, ha, rfl⟩ := List.mem_map.mp hy
          obtain ⟨b, hb, rfl⟩ := List.mem_map.mp hz
          rw [toP, toP, W.alike]
          exact b1 a ha b hb
        · obtain ⟨a, ha, rfl⟩ := List.mem_map.mp hy
          exact b2 a ha
    | non => cases h
    | hnd => cases h
    | dic => cases h
/-- a < b -/
def lts (e l : D → D → Bool) : List D → List D → Bool
  | [], ys => match ys with | [] => false | _ => true
  | x :: xs, ys => match ys with | [] => false | y :: ys => match e x y with | true => lts e l xs ys | false => l x y
def ltf : Nat → D → D → Bool
  | 0, _, _ => false
  | n + 1, a, b => match a with
    | .int i => match b with | .int j => decide (i < j) | _ => false
    | .bl c => match b with | .bl e => !c && e | _ => false
    | .str x => match b with | .str y => decide (x.cps.toList < y.cps.toList) | _ => false
    | .tup xs => match b with | .tup ys => lts (eqf n) (ltf n) xs ys | _ => false
    | .lst xs => match b with | .lst ys => lts (eqf n) (ltf n) xs ys | _ => false
    | _ => false
theorem ltf_data : ∀ {n : Nat} {a b : D}, Pl a → Pl b → dok n a = true → dok n b = true → W.alike (toP a) (toP b) = true → ltf n a b = W.dataLt (toP a) (toP b)
  | 0, _, _, _, _, h, _, _ => nomatch h
  | n + 1, a, b, pa, pb, ha, hb, hal => by
    have go : ∀ xs ys : List D, (∀ x ∈ xs, Pl x) → (∀ x ∈ ys, Pl x) → xs.all (dok n) = true → ys.all (dok n) = true → W.alikeAll (toPs xs) (toPs ys) = true → lts (eqf n) (ltf n) xs ys = PyProof.Rows.lexLt itemOrd (W.keyToksAll (toPs xs)) (W.keyToksAll (toPs ys)) := by
      intro xs
      induction xs with
      | nil =>
        intro ys _ _ _ _ _
        cases ys with
        | nil => rw [toPs, W.keyToksAll]; exact (lex_irrefl _).symm
        | cons y ys => rw [toPs, toPs, W.keyToksAll, W.keyToksAll]; symm; exact (lex_diff (O := itemOrd) (by intro z; cases z)).trans (show itemOrd.blt (.inl 0) (.inl 1) = true from rfl)
      | cons x xs ih =>
        intro ys px py hx hy hl
        cases ys with
        | nil => rw [toPs, toPs, W.keyToksAll, W.keyToksAll]; symm; exact (lex_diff (O := itemOrd) (by intro z; cases z)).trans (show itemOrd.blt (.inl 1) (.inl 0) = false from rfl)
        | cons y ys =>
          rw [List.all_cons, Bool.and_eq_true] at hx hy
          rw [toPs, toPs] at hl
          obtain ⟨l1, l2⟩ := W.alike_all_cons hl
          have ee : eqf n x y = PyData.eqv (toP x) (toP y) := eqf_eqv (px x (by simp)) (py y (by simp)) (.inl hx.1)
          rw [toPs, toPs]
          show (match eqf n x y with | true => lts (eqf n) (ltf n) xs ys | false => ltf n x y) = _
          cases e : eqf n x y with
          | true =>
            rw [ee] at e
            rw [W.dataLt_all_yes l1 e]
            exact ih ys (fun z hz => px z (by simp [hz])) (fun z hz => py z (by simp [hz])) hx.2 hy.2 l2
          | false =>
            rw [ee] at e
            rw [W.dataLt_all_no l1 e]
            exact ltf_data (px x (by simp)) (py y (by simp)) hx.1 hy.1 l1
    cases pa with
    | int i =>
      cases pb with
      | int j => rw [toP, toP, W.dataLt_int]; rfl
      | _ => simp [toP, W.alike] at hal
    | bl c =>
      cases pb with
      | bl e => rw [toP, toP, W.dataLt_bool]; cases c <;> cases e <;> rfl
      | _ => simp [toP, W.alike] at hal
    | str x =>
      cases pb with
      | str y => rw [toP, toP, W.dataLt_str]; rfl
      | _ => simp [toP, W.alike] at hal
    | tup px =>
      cases pb with
      | tup py =>
        rw [toP, toP, W.dataLt_tuple]
        rw [toP, toP, W.alike] at hal
        exact go _ _ px py ha hb hal
      | _ => simp [toP, W.alike] at hal
    | lst px =>
      cases pb with
      | lst py =>
        rw [toP, toP, W.dataLt_list]
        rw [toP, toP, W.alike] at hal
        exact go _ _ px py ha hb hal
      | _ => simp [toP, W.alike] at hal
    | non =>
      cases pb with
      | non => rw [toP]; simp [ltf, W.dataLt, W.keyToks, PyProof.Rows.lexLt]
      | _ => simp [toP, W.alike] at hal
/-! a new object at any free place -/
section
variable {P : Program} {w : World} {fs ex : List Addr} {H : Hp} {h h' : Heap} {a : Addr} {o : HO}
theorem un_at (k : ∀ b u, h.get? b = some u → h'.get? b = some u) (hn : H a = none) (na : ∀ u, h.get? a ≠ some u) : Un fs ex H (upd H a o) h h' where
  keep := fun b u q _ _ _ => k b u q
  slot := fun b u q _ _ _ => ⟨u.slots, k b u q⟩
  free := fun b u q n _ => by
    rw [upd_ne (fun (z : b = a) => na u (by rw [← z]; exact q))]
    exact n
  there := fun b u q _ => ⟨u, k b u q⟩
  tups := fun b xs q => upd_keep hn b _ q
  frzs := fun b u xs q => upd_keep hn b _ q
  tbls := fun b ps q => ⟨#[], by rw [upd_keep hn b _ q, Array.append_empty]⟩
theorem hok_at (x : HOk P w H h) (k : ∀ b u, h.get? b = some u → h'.get? b = some u) (hn : H a = none) (new : ObjOk P w (upd H a o) h' a o) : HOk P w (upd H a o) h' := fun b u e => by
  by_cases hb : b = a
  · cases hb
    rw [upd_same] at e
    cases e
    exact new
  · rw [upd_ne hb] at e
    exact (x b u e).stay (fun c v _ q => k c v q) (fun c q => upd_keep hn c _ q) fun c xs q => upd_keep hn c _ q
theorem inv_at {X : Cx} {pins : List (Addr × Obj)} {σ : L2.St} {H : Hp} {s : Shared} {h' : Heap} (I : Inv X pins σ H s) (k : ∀ b u, s.heap.get? b = some u → h'.get? b = some u) (na : ∀ u, s.heap.get? a ≠ some u) (new : ∀ H', H' = upd H a o → ObjOk X.prog X.w H' h' a o) :
    H a = none ∧ Inv X pins σ (upd H a o) { s with heap := h' } := by
  have hn : H a = none := by
    cases q : H a with
    | none => rfl
    | some u =>
      have lt := I.hok.lt q
      have : ∃ ob, s.heap.get? a = some ob := by
        have z := I.hok a u q
        clear lt q
        induction u with
        | lst xs => obtain ⟨_, _, _, _, e⟩ := z; exact ⟨_, e⟩
        | tup xs => obtain ⟨_, _, _, p, e, _⟩ := z; exact ⟨_, e⟩
        | dK kvs => obtain ⟨_, _, _, _, o, _, _, e, _⟩ := z; exact ⟨_, e⟩
        | dT kvs => obtain ⟨_, _, _, _, o, _, _, e, _⟩ := z; exact ⟨_, e⟩
        | set S n => obtain ⟨o, _, _, _, e, _⟩ := z; exact ⟨_, e⟩
        | ins C dx fs => obtain ⟨_, _, _, e, _⟩ := z; exact ⟨_, e⟩
        | own y => obtain ⟨_, e⟩ := z; exact ⟨_, e⟩
        | xd fs => obtain ⟨_, ⟨_, _, _, e, _⟩, _⟩ := z; exact ⟨_, e⟩
        | rng lo hi => obtain ⟨_, _, _, e⟩ := z; exact ⟨_, e⟩
        | frz ob u => obtain ⟨e, _⟩ := z; exact ⟨_, e⟩
        | tbl ps => exact ⟨_, z⟩
        | met f y => exact ⟨_, z⟩
        | ext φ => obtain ⟨_, ⟨_, e⟩, _⟩ := z; exact ⟨_, e⟩
      obtain ⟨ob, e⟩ := this
      exact absurd e (na ob)
  exact ⟨hn, I.un (t' := s.toks) (un_at k hn na) (hok_at I.hok k hn (new _ rfl))⟩
end
/-! sorted(xs), xs a list or a tuple -/
section
variable {prog : Program} {w : World} {A : Around} {E : Value → Shared → Prop} {s : Shared}
theorem sorted_seq {l : Addr} {c : String} {o : Obj} {n : Nat} {us : List Value} {ds : List D} {Rr : Value → D → Prop} {Q : Value → Shared → Prop} (hT : c = "list" ∨ c = "tuple") (ho : s.heap.get? l = some o) (hc : o.cls = .type c) (hd : o.data = .seq us.toArray n)
    (hL : us.length ≤ sizeLine) (e : W.EachIs Rr us ds) (er : W.EachIs (fun v b => ∃ as, Reads s.heap v (toP b) as) us ds) (hal : W.AllAlike (ds.map toP)) (hk : W.Sortable (ds.map toP)) (hu : ∀ b, b ∈ ds → A.units + 2 + (toP b).depth < cLine)
    (h : ∀ (h1 : Heap) (a : Addr) (out : List Value) (k : Nat), (∀ b u, s.heap.get? b = some u → h1.get? b = some u) → (∀ u, s.heap.get? a ≠ some u) → h1.get? a = some { cls := .type "list", data := .seq out.toArray k } → W.EachIs Rr out (ds.mergeSort (W.dataLe false toP)) → Q (.ref a) { s with heap := h1 }) :
    wpAny (model prog w) A (call (.builtin "sorted") [.ref l]) Q E s := by
  refine call_function_entry_kw kind_sorted plain_sorted entry_sorted (args_sorted1 _) ?_
  show wpAny _ _ (Builtin.«sorted» ⟨[.ref l], []⟩) _ _ _
  unfold Builtin.«sorted»
  refine wpAny_bind (m := checkCount "sorted" 1 1 _) (wpAny_pure (wpAny_bind (wpAny_collect_seq l hT ho hc hd (fun g hg => ?_) (by rw [List.size_toArray]; exact hL))))
  refine wpAny_bind (wpAny_newList ?_ (by simpa using hL))
  have na : ∀ u, s.heap.get? g.objs.size ≠ some u := fun u q => absurd (Heap.lt_size (hg _ _ q)) (Nat.lt_irrefl _)
  generalize hg2 : g.push (seqObj "list" us.toArray 0) = g2
  have at2 : g2.get? g.objs.size = some (seqObj "list" us.toArray 0) := by rw [← hg2]; exact Heap.get?_push_size _ rfl
  have old2 : ∀ b u, s.heap.get? b = some u → g2.get? b = some u := fun b u q => by rw [← hg2]; exact Heap.get?_push_of_some _ (hg b u q)
  have old3 : ∀ b u, s.heap.get? b = some u → (W.sortingHeap g2 g.objs.size us).get? b = some u := fun b u q => W.sortingHeap_old (fun (z : b = g.objs.size) => na u (by rw [← z]; exact q)) (old2 b u q)
  have er3 : W.EachIs (fun v b => ∃ as, Reads (W.sortingHeap g2 g.objs.size us) v (toP b) as) us ds := er.mono fun _ _ ⟨as, r⟩ => ⟨as, PyProof.Rows.Reads.keeps old3 r⟩
  refine wpAny_bind (wpAny_holding (wpAny_call_entry_kw slot_list_sort ⟨_, at2, rfl⟩ entry_list_sort ?_ (args_list_sort _)))
  have SS : W.SortsAt prog w A.in1.in1 { s with heap := W.sortingHeap g2 g.objs.size us } (W.dataKind (W.sortingHeap g2 g.objs.size us) (ds.map toP)) us :=
    W.SortsAt.data (s := { s with heap := W.sortingHeap g2 g.objs.size us }) (W.each_map (R := fun v d => ∃ as, Reads (W.sortingHeap g2 g.objs.size us) v d as) toP er3) hal hk (W.bound_map hu)
  refine W.list_sort_vals (s := { s with heap := g2 }) at2 SS hL ?_
  refine ⟨.none, rfl, wpAny_pure ⟨_, rfl, ?_⟩⟩
  obtain ⟨k, hk2⟩ := sortedHeap_at (out := (W.sortVals (W.dataKind (W.sortingHeap g2 g.objs.size us) (ds.map toP)) false us us).toArray) (vs := us) at2
  refine h _ g.objs.size _ k (fun b u q => ?_) na hk2 (W.sortVals_data false e er3 hal)
  rw [sortedHeap_old (fun (z : b = g.objs.size) => na u (by rw [← z]; exact q)) (Heap.lt_size (old2 b u q))]
  exact old2 b u q
end
/-! the rule -/
def sortOp (xs : List D) : Option D := match homog 60 xs && (xs.all fun d => match d with | .tup [] => false | _ => true) with
  | true => some (.lst (sortR (fun a b => ltf 60 b a) xs))
  | false => none
def oSort : D → Option D
  | .lst xs => sortOp xs
  | .tup xs => sortOp xs
  | _ => none
def rSortE (K : PySem.W.Frag) (F : Addr → Prop) : V → Hp → VK → Prop := fun x H Q => ∃ a vs ds, x = .ref a ∧ (SqL K H a vs ∨ SqT K H a vs) ∧ Shs K H F vs ds ∧ W.AllAlike (ds.map toP) ∧ W.Sortable (ds.map toP) ∧ (∀ d ∈ ds, (toP d).depth ≤ 64 ∧ Pl d) ∧
  ∀ p ws, H p = none → ws.length = vs.length → Shs K H F ws (ds.mergeSort (W.dataLe false toP)) → Q (.ref p) (upd H p (.lst ws))
theorem outs {K : PySem.W.Frag} {H : Hp} {F : Addr → Prop} : ∀ {us : List Value} {ds : List D}, W.EachIs (fun v d => ∃ x, RelV x v ∧ Sh K H F x d ∧ Pl d) us ds → ∃ vs, Vals vs us ∧ Shs K H F vs ds
  | _, _, .nil => ⟨[], .nil, .nil⟩
  | _, _, .cons ⟨x, r, h, _⟩ t => by
    obtain ⟨vs, h1, h2⟩ := outs t
    exact ⟨x :: vs, .cons r h1, .cons h h2⟩
theorem ins {K : PySem.W.Frag} {H : Hp} {F : Addr → Prop} : ∀ {vs : List V} {us : List Value} {ds : List D}, Vals vs us → Shs K H F vs ds → (∀ d ∈ ds, Pl d) → W.EachIs (fun v d => ∃ x, RelV x v ∧ Sh K H F x d ∧ Pl d) us ds
  | _, _, _, .nil, .nil, _ => .nil
  | _, _, _, .cons r t, .cons h hs, p => .cons ⟨_, r, h, p _ (by simp)⟩ (ins t hs fun d hd => p d (by simp [hd]))
section
variable {X : Cx} {G : Cn}
theorem cr_sort (hu : X.A.units + 80 < cLine) (F : Addr → Prop) : CallR X (.builtin "sorted") (fun xs H Q => ∃ x, xs = [x] ∧ rSortE X.K F x H Q) := by
  intro pins s σ H xs us Q I r h
  obtain ⟨x, rfl, a, vs, ds, rfl, hsq, hsh, hal, hk, hdep, q⟩ := h
  rw [Vals.ref1 r]
  have core : ∀ {c : String} {o : Obj} {n : Nat} {its : List Value}, (c = "list" ∨ c = "tuple") → s.heap.get? a = some o → o.cls = .type c → o.data = .seq its.toArray n → Vals vs its → vs.length ≤ sizeLine → wpAny (model X.prog X.w) X.A (call (.builtin "sorted") [.ref a]) (EP X pins σ Q) X.xe s := by
    intro c o n its hT ho hc hd hv hz
    have e := ins hv hsh fun d hd => (hdep d hd).2
    refine sorted_seq hT ho hc hd (by rw [← hv.length]; exact hz) e (e.mono fun u d ⟨y, ry, hy, py⟩ => Dp.reads I _ _ _ (hy.dp py) ry) hal hk (fun d hd => by have := (hdep d hd).1; omega) fun h1 p out k old na at1 e2 => ?_
    obtain ⟨ws, hw1, hw2⟩ := outs e2
    have hl : ws.length = vs.length := by rw [hw2.length, List.length_mergeSort, hsh.length]
    obtain ⟨hn, J⟩ := inv_at (o := .lst ws) I old na fun H' _ => ⟨by rw [hl]; exact hz, out, k, hw1, at1⟩
    exact ⟨.ref p, _, J, rfl, q p ws hn hl hw2⟩
  rcases hsq with hsq | hsq
  · obtain ⟨its, rv, ⟨o, n, e1, e2, _, e4⟩, hz⟩ := I.list hsq
    exact core (.inl rfl) e1 e2 e4 rv hz
  · obtain ⟨its, rv, ⟨o, e1, e2, n, e4⟩, hz⟩ := I.tuple hsq
    exact core (.inr rfl) e1 e2 e4 rv hz
theorem sortOp_ok {K : PySem.W.Frag} {H : Hp} {F : Addr → Prop} {vs : List V} {xs : List D} {d' : D} (h : Shs K H F vs xs) (e : sortOp xs = some d') : W.AllAlike (xs.map toP) ∧ W.Sortable (xs.map toP) ∧ (∀ d ∈ xs, (toP d).depth ≤ 64 ∧ Pl d) ∧ d' = .lst (xs.mergeSort (W.dataLe false toP)) := by
  unfold sortOp at e
  cases e1 : (homog 60 xs && (xs.all fun d => match d with | .tup [] => false | _ => true)) with
  | false => rw [e1] at e; cases e
  | true =>
    rw [e1] at e
    cases e
    rw [Bool.and_eq_true] at e1
    obtain ⟨h1, h2⟩ := homog_alike e1.1
    have pl : ∀ x ∈ xs, Pl x := fun x hx => dok_pl (h2 x hx)
    refine ⟨fun a ha b hb => ?_, ?_, fun d hd => ⟨Nat.le_trans (dok_depth (h2 d hd)) (by decide), pl d hd⟩, ?_⟩
    · obtain ⟨x, hx, rfl⟩ := List.mem_map.mp ha
      obtain ⟨y, hy, rfl⟩ := List.mem_map.mp hb
      exact h1 x hx y hy
    · have n1 := List.all_eq_true.mp e1.2
      cases xs with
      | nil => exact .inr fun d hd => nomatch hd
      | cons x r =>
        have tupd : ∀ y ∈ x :: r, W.alike (toP x) (toP y) = true := fun y hy => h1 x (by simp) y hy
        have px := pl x (by simp)
        cases px with
        | tup _ =>
          refine .inl fun d hd => ?_
          obtain ⟨y, hy, rfl⟩ := List.mem_map.mp hd
          have := tupd y hy
          have ny := n1 y hy
          cases pl y hy with
          | @tup ys _ =>
            cases ys with
            | nil => cases ny
            | cons z zs => exact ⟨_, _, by rw [toP, toPs]⟩
          | _ => simp [toP, W.alike] at this
        | non => cases e1.1
        | _ =>
          refine .inr fun d hd => ?_
          obtain ⟨y, hy, rfl⟩ := List.mem_map.mp hd
          have := tupd y hy
          cases pl y hy <;> first | (simp [toP, W.alike] at this; done) | (refine ⟨fun z => ?_, fun xs z => ?_⟩ <;> simp [toP] at z)
    · congr 1
      have T : W.TotalLe (W.dataLe false toP) := W.sortLe_total _ _ _
      rw [← sortR_eq T]
      refine sortR_congr fun a ha b hb => ?_
      rw [ltf_data (pl b hb) (pl a ha) (h2 b hb) (h2 a ha) (h1 b hb a ha)]
      show W.dataLt (toP b) (toP a) = !(!PyProof.Rows.lexLt itemOrd (W.keyToks (toP b)) (W.keyToks (toP a)))
      rw [Bool.not_not]
      rfl
theorem u_sort {st0 : AS} : U1 G .ow oSort (fun x H Q => ∃ F, rSortE G.K F x H Q) := by
  intro st σ H O v d d' Q S hv ho q
  have fin : ∀ {a : Addr} {vs : List V} {xs : List D}, v = .ref a → (SqL G.K H a vs ∨ SqT G.K H a vs) → Shs G.K H (G.F O) vs xs → sortOp xs = some d' → ∃ F, rSortE G.K F v H Q := by
    intro a vs xs e hsq hsh ho
    obtain ⟨h1, h2, h3, rfl⟩ := sortOp_ok hsh ho
    refine ⟨G.F O, a, vs, xs, e, hsq, hsh, h1, h2, h3, fun p ws hp hl hw => ?_⟩
    obtain ⟨s1, S1, r1⟩ := end_lst S hp hw
    exact q _ _ _ s1 S1 r1
  cases d with
  | lst xs =>
    obtain ⟨a, vs, rfl, ha, hvs⟩ := hv.lst
    exact fin rfl (.inl (Rd.sql ha)) hvs ho
  | tup xs =>
    obtain ⟨a, vs, rfl, ha, hvs⟩ := hv.tup
    exact fin rfl (.inr ha) hvs ho
  | _ => cases ho
end
end EV
/-! more of expressions: kinds of things, slices, tests, displays -/
namespace EV
open PySem PySem.Spec PyProof.Rows L2
/-! what an expression's head is -/
def notStar : Expr → Bool
  | .Starred .. => false
  | _ => true
def notSet : Expr → Bool
  | .Set .. => false
  | _ => true
def notSlice : Expr → Bool
  | .Slice .. => false
  | _ => true
/-- no test of its own kind -/
def plainT : Expr → Bool
  | .UnaryOp .Not _ _ => false
  | .BoolOp .. => false
  | .IfExp .. => false
  | .Compare .. => false
  | _ => true
theorem star_of {e : Expr} {es : List Expr} {env : Env} (h : notStar e = true) : starEach (e :: es) env = (false, eval e env) :: starEach es env := by
  cases e <;> first | rfl | cases h
theorem marks_of {e : Expr} {op : CmpOp} (h : notSet e = true) : behindInMarks op e = false := by
  cases e <;> first | rfl | cases h
theorem fold_of {e : Expr} {env : Env} (h : notSet e = true) : ∀ x, foldedSetIterable e env x = pure x := by
  intro x
  cases e <;> first | rfl | cases h
theorem ix_of {e : Expr} (h : notSlice e = true) : PlainIx e := by
  intro o i
  cases e <;> first | rfl | cases h
theorem test_of {e : Expr} {env : Env} (h : plainT e = true) : ∀ whole, isTrue e env whole = (do let v ← whole; standAt e.pos; holding [v] (truthy v)) := by
  intro whole
  cases e with
  | UnaryOp op x p => cases op <;> first | rfl | cases h
  | _ => first | rfl | cases h
/-! isinstance of built-in types -/
inductive TN | int | bool | str | tup | lst | dct
def TN.name : TN → Str
  | .int => "int" | .bool => "bool" | .str => "str" | .tup => "tuple" | .lst => "list" | .dct => "dict"
def TN.ty : TN → String
  | .int => "int" | .bool => "bool" | .str => "str" | .tup => "tuple" | .lst => "list" | .dct => "dict"
def isTN (d : D) (t : TN) : Bool := match d with
  | .int _ => match t with | .int => true | _ => false
  | .bl _ => match t with | .int => true | .bool => true | _ => false
  | .str _ => match t with | .str => true | _ => false
  | .tup _ => match t with | .tup => true | _ => false
  | .lst _ => match t with | .lst => true | _ => false
  | .dic => match t with | .dct => true | _ => false
  | _ => false
def tyOf : D → String
  | .int _ => "int" | .bl _ => "bool" | .str _ => "str" | .tup _ => "tuple" | .lst _ => "list" | .dic => "dict" | _ => "NoneType"
theorem kit_tn (K : PySem.W.Frag) : ∀ (d : D) (t : TN), d ≠ .hnd → W.kitOne K (.type (tyOf d)) (.type t.ty) = some (isTN d t) := by
  intro d t hd
  cases d with
  | hnd => exact absurd rfl hd
  | non => exact kit_ty (show kitB "NoneType" t.ty = some (isTN .non t) by cases t <;> decide +kernel)
  | bl b => exact kit_ty (show kitB "bool" t.ty = some (isTN (.bl true) t) by cases t <;> decide +kernel)
  | int i => exact kit_ty (show kitB "int" t.ty = some (isTN (.int 0) t) by cases t <;> decide +kernel)
  | str x => exact kit_ty (show kitB "str" t.ty = some (isTN (.str ⟨#[]⟩) t) by cases t <;> decide +kernel)
  | tup x => exact kit_ty (show kitB "tuple" t.ty = some (isTN (.tup []) t) by cases t <;> decide +kernel)
  | lst x => exact kit_ty (show kitB "list" t.ty = some (isTN (.lst []) t) by cases t <;> decide +kernel)
  | dic => exact kit_ty (show kitB "dict" t.ty = some (isTN .dic t) by cases t <;> decide +kernel)
section
variable {X : Cx} {G : Cn}
theorem tyx {st : AS} {σ : L2.St} {H : Hp} {O : Addr → Prop} {v : V} {d : D} (hv : VR G .br st σ H O v d) (hd : d ≠ .hnd) : TyX G.K H v (.type (tyOf d)) := by
  cases d with
  | non => rw [hv.non]; exact .base .non
  | bl b => rw [hv.bl]; exact .base (.bl _)
  | int i => rw [hv.int]; exact .base (.int _)
  | str x => rw [hv.str.1]; exact .base (.str _)
  | tup ds =>
    obtain ⟨a, vs, rfl, (h | ⟨o, h⟩) | ⟨o, its, n, h, hc, _⟩, _⟩ := hv.tup
    · exact .base (.tup h)
    · exact .fTuple h
    · exact .kTuple h hc
  | lst ds =>
    obtain ⟨a, vs, rfl, h | ⟨o, h⟩, _⟩ := hv.lst
    · exact .base (.lst h)
    · exact .base (.frz h)
  | hnd => exact absurd rfl hd
  | dic =>
    rcases hv with (h | ⟨e, _⟩) | ⟨_, _, _, _, e, _⟩
    · cases h with
      | dic h =>
        rcases h with h | ⟨o, h⟩
        · exact .base (.dK h)
        · exact .fDict h
    · cases e
    · cases e
def oIsi (ts : List TN) (d : D) : Option D := match d with
  | .hnd => none
  | d => some (.bl (ts.any (isTN d)))
theorem oIsi_some {ts : List TN} {d d' : D} (h : oIsi ts d = some d') : d ≠ .hnd ∧ d' = .bl (ts.any (isTN d)) := by
  cases d with
  | hnd => cases h
  | _ =>
    cases h
    exact ⟨(by intro z; cases z), rfl⟩
theorem u_isi {t : TN} : U1 G .sh (oIsi [t]) (fun x H Q => rIsi G.K [x, .ty t.ty] H Q) := by
  intro st σ H O v d d' Q S hv ho q
  obtain ⟨hd, rfl⟩ := oIsi_some ho
  refine ⟨v, .ty t.ty, _, _, _, rfl, .ty _, tyx hv hd, kit_tn G.K d t hd, ?_⟩
  have : [t].any (isTN d) = isTN d t := by simp
  rw [← this]
  exact q _ H O Stp.refl S (.inl (.bl _))
theorem kit_any (K : PySem.W.Frag) (d : D) (hd : d ≠ .hnd) : ∀ ts : List TN, W.kitAny K (.type (tyOf d)) (ts.map fun t => .type t.ty) = some (ts.any (isTN d))
  | [] => rfl
  | t :: ts => kitAny_cons (b := isTN d t) (kit_tn K d t hd) (fun e => by rw [kit_any K d hd ts, List.any_cons, e]; rfl) (fun e => by rw [List.any_cons, e]; rfl)
theorem cls_all : ∀ ts : List TN, Paired ClsV (ts.map fun t => V.ty t.ty) (ts.map fun t => Value.type t.ty)
  | [] => .nil
  | t :: ts => .cons (.ty _) (cls_all ts)
theorem u_isiT {ts us : TN} : U1 G .sh (oIsi [ts, us]) (fun x H Q => ∀ p, H p = none → rIsiT G.K [x, .ref p] (upd H p (.tup [.ty ts.ty, .ty us.ty])) Q) := by
  intro st σ H O v d d' Q S hv ho q p np
  obtain ⟨hd, rfl⟩ := oIsi_some ho
  have S1 : SR G st σ (upd H p (.tup [.ty ts.ty, .ty us.ty])) O := S.new np
  have hv1 := S.carB (Stp.new (o := .tup [.ty ts.ty, .ty us.ty]) (O := O) (hd := G.hd) np) hv (st' := st) (σ' := σ)
  refine ⟨v, p, _, _, _, _, rfl, upd_same, cls_all [ts, us], tyx hv1 hd, kit_any G.K d hd [ts, us], ?_⟩
  exact q _ _ O (Stp.new np) S1 (.inl (.bl _))
end
/-! slices -/
abbrev MO := AS → R (Option Int × AS)
def mNo : MO := fun st => .ok (none, st)
def mPart (m : ME) : MO := fun st => (m st).bind fun p => match p.1 with | .int i => .ok (some i, p.2) | _ => .bad
def TOp (G : Cn) (m : MO) : TO := fun σ H Q => ∃ st O, SR G st σ H O ∧ (m st).all fun p => ∀ H' O', Stp true G.hd O H O' H' → SR G p.2 σ H' O' → Q p.1 H'
theorem PO.weak {X : Cx} {e : Option Expr} {t t' : TO} (h : PO X e t) (w : ∀ σ H Q, t' σ H Q → t σ H Q) : PO X e t' := ⟨fun pins s σ H Q I q => h.run pins s σ H Q I (w σ H Q q)⟩
def cutD (xs : List D) (lo hi : Option Int) : List D := (xs.drop (HT.sIx xs.length 0 lo)).take (HT.sIx xs.length xs.length hi - HT.sIx xs.length 0 lo)
theorem cut_sh {K : PySem.W.Frag} {H : Hp} {F : Addr → Prop} {vs : List V} {ds : List D} (h : Shs K H F vs ds) (lo hi : Option Int) : Shs K H F (cutV vs lo hi) (cutD ds lo hi) := by
  unfold cutV cutD
  rw [h.length]
  exact (h.drop _).take _
def mSl (own : Bool) (m : ME) (lo hi : MO) : ME := fun st => (m st).bind fun p => (lo p.2).bind fun a => (hi a.2).bind fun b => match p.1 with
  | .lst xs => .ok (.lst (cutD xs a.1 b.1), b.2)
  | .tup xs => match own with | true => .bad | false => .ok (.tup (cutD xs a.1 b.1), b.2)
  | _ => .bad
section
variable {X : Cx} {G : Cn}
theorem po_no : PO X none (TOp G mNo) := PO.weak po_none fun σ H Q q => by
  obtain ⟨st, O, S, q⟩ := q
  exact q H O Stp.refl S
theorem po_pt {e : Expr} {m : ME} (h : PE X e (T G .br true m)) : PO X (some e) (TOp G (mPart m)) := PO.weak (po_some h) fun σ H Q q => by
  obtain ⟨st, O, S, q⟩ := q
  refine ⟨st, O, S, R.all_mono (fun p q v H1 O1 s1 S1 r1 => ?_) (R.all_bind q)⟩
  cases e : p.1 with
  | int i =>
    rw [e] at q r1
    exact ⟨i, r1.int, q H1 O1 s1 S1⟩
  | _ => rw [e] at q; exact q.elim
theorem cut_whole {ds : List D} {lo hi : Option Int} (h : HT.sIx ds.length 0 lo = 0 ∧ HT.sIx ds.length ds.length hi = ds.length) : cutD ds lo hi = ds := by
  unfold cutD
  rw [h.1, h.2]
  simp
def rSlE (K : PySem.W.Frag) : V → Option Int → Option Int → Hp → VK → Prop := fun x lo hi H Q => rSlL K x lo hi H Q ∨ rSlA K x lo hi H Q
theorem sl_e : SlR X (rSlE X.K) := SlR.or sl_list sl_tupA
theorem w_sl_sh {m : ME} {lo hi : MO} (σ : L2.St) (H : Hp) (Q : VK) (q : T G .sh true (mSl false m lo hi) σ H Q) : tSl (rSlE G.K) (T G .br true m) (TOp G lo) (TOp G hi) σ H Q := by
  obtain ⟨st, O, S, q⟩ := q
  refine ⟨st, O, S, R.all_mono (fun p q v H1 O1 s1 S1 r1 => ?_) (R.all_bind q)⟩
  refine ⟨p.2, O1, S1, R.all_mono (fun a q H2 O2 s2 S2 => ?_) (R.all_bind q)⟩
  refine ⟨a.2, O2, S2, R.all_mono (fun b q H3 O3 s3 S3 => ?_) (R.all_bind q)⟩
  have r3 : VR G .br b.2 σ H3 O3 v p.1 := S2.carB (st' := b.2) (σ' := σ) s3 (S1.carB (st' := a.2) (σ' := σ) s2 r1)
  have s13 := (s1.trans s2 S2.hO).trans s3 S3.hO
  cases e : p.1 with
  | lst xs =>
    rw [e] at q r3
    obtain ⟨x, vs, rfl, ha, hvs⟩ := r3.lst
    refine .inl ⟨x, vs, rfl, Rd.sql ha, fun l hl => ?_⟩
    obtain ⟨s4, S4, r4⟩ := end_lst S3 hl (cut_sh hvs a.1 b.1)
    obtain ⟨y, e1, ⟨ho, ds, ws, e2, e3, e4⟩, hn⟩ := r4
    cases e1
    refine q _ _ _ ((s13.trans s4 S4.hO).give (a := l)) (S4.give hn) (.inl ?_)
    rw [e2]
    exact .lst (.inl e3) (fun z => z.elim (fun z => S4.bo l z ho) fun z => z.2 rfl) (e4.mono fun c z => z.elim .inl fun z => .inr z.1)
  | tup xs =>
    rw [e] at q r3
    obtain ⟨x, vs, rfl, ha, hvs⟩ := r3.tup
    have q : ∀ v' H' O', Stp true G.hd O H O' H' → SR G b.2 σ H' O' → VR G .sh b.2 σ H' O' v' (.tup (cutD xs a.1 b.1)) → Q v' H' := q
    have hL := hvs.length
    refine .inr ⟨x, vs, rfl, ha, fun hw => ?_, fun hw p hp => ?_⟩
    · rw [hL] at hw
      rw [cut_whole hw] at q
      exact q _ _ _ s13 S3 (.inl (.tup ha hvs))
    · obtain ⟨s4, S4, r4⟩ := end_tup S3 hp (cut_sh hvs a.1 b.1)
      exact q _ _ _ (s13.trans s4 S4.hO) S4 r4
  | _ => rw [e] at q; exact q.elim
theorem w_sl_ow {m : ME} {lo hi : MO} (σ : L2.St) (H : Hp) (Q : VK) (q : T G .ow true (mSl true m lo hi) σ H Q) : tSl (rSlE G.K) (T G .br true m) (TOp G lo) (TOp G hi) σ H Q := by
  obtain ⟨st, O, S, q⟩ := q
  refine ⟨st, O, S, R.all_mono (fun p q v H1 O1 s1 S1 r1 => ?_) (R.all_bind q)⟩
  refine ⟨p.2, O1, S1, R.all_mono (fun a q H2 O2 s2 S2 => ?_) (R.all_bind q)⟩
  refine ⟨a.2, O2, S2, R.all_mono (fun b q H3 O3 s3 S3 => ?_) (R.all_bind q)⟩
  have r3 : VR G .br b.2 σ H3 O3 v p.1 := S2.carB (st' := b.2) (σ' := σ) s3 (S1.carB (st' := a.2) (σ' := σ) s2 r1)
  have s13 := (s1.trans s2 S2.hO).trans s3 S3.hO
  cases e : p.1 with
  | lst xs =>
    rw [e] at q r3
    obtain ⟨x, vs, rfl, ha, hvs⟩ := r3.lst
    refine .inl ⟨x, vs, rfl, Rd.sql ha, fun l hl => ?_⟩
    obtain ⟨s4, S4, r4⟩ := end_lst S3 hl (cut_sh hvs a.1 b.1)
    exact q _ _ _ (s13.trans s4 S4.hO) S4 r4
  | tup xs => rw [e] at q; exact q.elim
  | _ => rw [e] at q; exact q.elim
/-! xs[::-1] -/
def oRev (own : Bool) : D → Option D
  | .lst xs => some (.lst xs.reverse)
  | .tup xs => match own with | true => none | false => some (.tup xs.reverse)
  | _ => none
end
/-! tests -/
abbrev MT := AS → R (Bool × AS)
def tVal (m : ME) : MT := fun st => (m st).bind fun p => match p.1 with | .bl b => .ok (b, p.2) | _ => .bad
def tAnd (a b : MT) : MT := fun st => (a st).bind fun p => match p.1 with | true => b p.2 | false => .ok (false, p.2)
def tOr (a b : MT) : MT := fun st => (a st).bind fun p => match p.1 with | true => .ok (true, p.2) | false => b p.2
def tNot (a : MT) : MT := fun st => (a st).bind fun p => .ok (!p.1, p.2)
def mAnd (a b : ME) : ME := fun st => (a st).bind fun p => match p.1 with | .bl c => (match c with | true => b p.2 | false => .ok (.bl false, p.2)) | _ => .bad
def mOr (a b : ME) : ME := fun st => (a st).bind fun p => match p.1 with | .bl c => (match c with | true => .ok (.bl true, p.2) | false => b p.2) | _ => .bad
def mNot (a : ME) : ME := fun st => (a st).bind fun p => match p.1 with | .bl c => .ok (.bl (!c), p.2) | _ => .bad
def mIf (t : MT) (a b : ME) : ME := fun st => (t st).bind fun p => match p.1 with | true => a p.2 | false => b p.2
def mChain (p q : Int → Int → Bool) (a b c : ME) : ME := fun st => (a st).bind fun x => (b x.2).bind fun y => match x.1 with
  | .int i => match y.1 with
    | .int j => match p i j with
      | true => (c y.2).bind fun z => match z.1 with | .int k => .ok (.bl (q j k), z.2) | _ => .bad
      | false => .ok (.bl false, y.2)
    | _ => .bad
  | _ => .bad
section
variable {X : Cx} {G : Cn} {k : Kd}
theorem bl_sh {st : AS} {σ : L2.St} {H : Hp} {O : Addr → Prop} {v : V} {b : Bool} (h : VR G .sh st σ H O v (.bl b)) : v = .bl b := VR.bl (st := st) (σ := σ) (.inl h)
theorem w_val {m : ME} (σ : L2.St) (H : Hp) (Q : Bool → Hp → Prop) (q : TB G true (tVal m) σ H Q) : L2.tB (T G .br true m) σ H Q := by
  obtain ⟨st, O, S, q⟩ := q
  refine ⟨st, O, S, R.all_mono (fun p q v H1 O1 s1 S1 r1 => ?_) (R.all_bind q)⟩
  cases e : p.1 with
  | bl b =>
    rw [e] at q r1
    exact ⟨b, r1.bl, q H1 O1 s1 S1⟩
  | _ => rw [e] at q; exact q.elim
theorem t_val {e : Expr} {m : ME} (h : PE X e (T G .br true m)) (he : plainT e = true) : PT X e (TB G true (tVal m)) := PT.weak (pt_val h (test_of he)) w_val
theorem w_tand {a b : MT} (σ : L2.St) (H : Hp) (Q : Bool → Hp → Prop) (q : TB G true (tAnd a b) σ H Q) : L2.tAnd (TB G true a) (TB G true b) σ H Q := by
  obtain ⟨st, O, S, q⟩ := q
  refine ⟨st, O, S, R.all_mono (fun p q H1 O1 s1 S1 => ?_) (R.all_bind q)⟩
  cases e : p.1 with
  | true =>
    rw [e] at q
    exact iteT ⟨p.2, O1, S1, R.all_mono (fun p2 q H2 O2 s2 S2 => q H2 O2 (s1.trans s2 S2.hO) S2) q⟩
  | false =>
    rw [e] at q
    exact iteF (q H1 O1 s1 S1)
theorem w_tor {a b : MT} (σ : L2.St) (H : Hp) (Q : Bool → Hp → Prop) (q : TB G true (tOr a b) σ H Q) : L2.tOr (TB G true a) (TB G true b) σ H Q := by
  obtain ⟨st, O, S, q⟩ := q
  refine ⟨st, O, S, R.all_mono (fun p q H1 O1 s1 S1 => ?_) (R.all_bind q)⟩
  cases e : p.1 with
  | true =>
    rw [e] at q
    exact iteT (q H1 O1 s1 S1)
  | false =>
    rw [e] at q
    exact iteF ⟨p.2, O1, S1, R.all_mono (fun p2 q H2 O2 s2 S2 => q H2 O2 (s1.trans s2 S2.hO) S2) q⟩
theorem w_tnot {a : MT} (σ : L2.St) (H : Hp) (Q : Bool → Hp → Prop) (q : TB G true (tNot a) σ H Q) : L2.tNot (TB G true a) σ H Q := by
  obtain ⟨st, O, S, q⟩ := q
  exact ⟨st, O, S, R.all_mono (fun p q H1 O1 s1 S1 => q H1 O1 s1 S1) (R.all_bind q)⟩
theorem w_mand {a b : ME} (σ : L2.St) (H : Hp) (Q : VK) (q : T G .sh true (mAnd a b) σ H Q) : L2.tAndV (T G .sh true a) (T G .sh true b) σ H Q := by
  obtain ⟨st, O, S, q⟩ := q
  refine ⟨st, O, S, R.all_mono (fun p q v H1 O1 s1 S1 r1 => ?_) (R.all_bind q)⟩
  cases e : p.1 with
  | bl c =>
    rw [e] at q r1
    refine ⟨c, bl_sh r1, ?_⟩
    cases c with
    | true => exact iteT ⟨p.2, O1, S1, R.all_mono (fun p2 q w H2 O2 s2 S2 r2 => q w H2 O2 (s1.trans s2 S2.hO) S2 r2) q⟩
    | false => exact iteF (q _ H1 O1 s1 S1 (.inl (.bl _)))
  | _ => rw [e] at q; exact q.elim
theorem w_mor {a b : ME} (σ : L2.St) (H : Hp) (Q : VK) (q : T G .sh true (mOr a b) σ H Q) : L2.tOrV (T G .sh true a) (T G .sh true b) σ H Q := by
  obtain ⟨st, O, S, q⟩ := q
  refine ⟨st, O, S, R.all_mono (fun p q v H1 O1 s1 S1 r1 => ?_) (R.all_bind q)⟩
  cases e : p.1 with
  | bl c =>
    rw [e] at q r1
    refine ⟨c, bl_sh r1, ?_⟩
    cases c with
    | true => exact iteT (q _ H1 O1 s1 S1 (.inl (.bl _)))
    | false => exact iteF ⟨p.2, O1, S1, R.all_mono (fun p2 q w H2 O2 s2 S2 r2 => q w H2 O2 (s1.trans s2 S2.hO) S2 r2) q⟩
  | _ => rw [e] at q; exact q.elim
theorem w_mnot {a : ME} (σ : L2.St) (H : Hp) (Q : VK) (q : T G .sh true (mNot a) σ H Q) : L2.tNotV (T G .sh true a) σ H Q := by
  obtain ⟨st, O, S, q⟩ := q
  refine ⟨st, O, S, R.all_mono (fun p q v H1 O1 s1 S1 r1 => ?_) (R.all_bind q)⟩
  cases e : p.1 with
  | bl c =>
    rw [e] at q r1
    exact ⟨c, bl_sh r1, q _ H1 O1 s1 S1 (.inl (.bl _))⟩
  | _ => rw [e] at q; exact q.elim
theorem w_if {t : MT} {a b : ME} (σ : L2.St) (H : Hp) (Q : VK) (q : T G k true (mIf t a b) σ H Q) : L2.tIf (TB G true t) (T G k true a) (T G k true b) σ H Q := by
  obtain ⟨st, O, S, q⟩ := q
  refine ⟨st, O, S, R.all_mono (fun p q H1 O1 s1 S1 => ?_) (R.all_bind q)⟩
  cases e : p.1 with
  | true =>
    rw [e] at q
    exact iteT ⟨p.2, O1, S1, R.all_mono (fun p2 q w H2 O2 s2 S2 r2 => q w H2 O2 (s1.trans s2 S2.hO) S2 r2) q⟩
  | false =>
    rw [e] at q
    exact iteF ⟨p.2, O1, S1, R.all_mono (fun p2 q w H2 O2 s2 S2 r2 => q w H2 O2 (s1.trans s2 S2.hO) S2 r2) q⟩
theorem w_chain {p q' : Int → Int → Bool} {a b c : ME} (σ : L2.St) (H : Hp) (Q : VK) (q : T G .sh true (mChain p q' a b c) σ H Q) :
    L2.tChain (rI0 fun i j => .bl (p i j)) (rI0 fun i j => .bl (q' i j)) (T G .br true a) (T G .br true b) (T G .br true c) σ H Q := by
  obtain ⟨st, O, S, q⟩ := q
  refine ⟨st, O, S, R.all_mono (fun x q v H1 O1 s1 S1 r1 => ?_) (R.all_bind q)⟩
  refine ⟨x.2, O1, S1, R.all_mono (fun y q w H2 O2 s2 S2 r2 => ?_) (R.all_bind q)⟩
  cases e : x.1 with
  | int i =>
    rw [e] at q r1
    cases f : y.1 with
    | int j =>
      rw [f] at q r2
      refine ⟨i, j, r1.int, r2.int, _, rfl, ?_⟩
      cases g : p i j with
      | true =>
        simp only [g] at q
        refine iteT ⟨y.2, O2, S2, R.all_mono (fun z q u H3 O3 s3 S3 r3 => ?_) (R.all_bind q)⟩
        cases h : z.1 with
        | int l =>
          rw [h] at q r3
          exact ⟨j, l, r2.int, r3.int, q _ H3 O3 ((s1.trans s2 S2.hO).trans s3 S3.hO) S3 (.inl (.bl _))⟩
        | _ => rw [h] at q; exact q.elim
      | false =>
        simp only [g] at q
        exact iteF (q _ H2 O2 (s1.trans s2 S2.hO) S2 (.inl (.bl _)))
    | _ => rw [f] at q; exact q.elim
  | _ => rw [e] at q; exact q.elim
end
/-! lists of expressions -/
abbrev ML := AS → R (List D × AS)
def lNil : ML := fun st => .ok ([], st)
def lCons (m : ME) (l : ML) : ML := fun st => (m st).bind fun p => (l p.2).bind fun q => .ok (p.1 :: q.1, q.2)
def mTup (l : ML) : ME := fun st => (l st).bind fun p => match lenOk p.1.length && p.1.all (fun d => !isH d) with | true => .ok (.tup p.1, p.2) | false => .bad
def mLst (l : ML) : ME := fun st => (l st).bind fun p => match lenOk p.1.length && p.1.all (fun d => !isH d) with | true => .ok (.lst p.1, p.2) | false => .bad
section
variable {X : Cx} {G : Cn} {pu : Bool}
theorem l_nil : PA X [] (TL G pu lNil) := PA.weak pa_nil fun σ H Q q => by
  obtain ⟨st, O, S, q⟩ := q
  exact q _ H O Stp.refl S .nil
theorem l_cons {e : Expr} {es : List Expr} {m : ME} {l : ML} (he : PE X e (T G .sh pu m)) (hl : PA X es (TL G pu l)) (hs : notStar e = true) : PA X (e :: es) (TL G pu (lCons m l)) := PA.weak (pa_cons he hl (star_of hs)) fun σ H Q q => by
  obtain ⟨st, O, S, q⟩ := q
  refine ⟨st, O, S, R.all_mono (fun p q v H1 O1 s1 S1 r1 => ?_) (R.all_bind q)⟩
  refine ⟨p.2, O1, S1, R.all_mono (fun p2 q vs H2 O2 s2 S2 r2 => ?_) (R.all_bind q)⟩
  exact q _ H2 O2 (s1.trans s2 S2.hO) S2 (.cons (S1.car s2 r1) r2)
theorem noH {K : PySem.W.Frag} {hd : Option Addr} {H : Hp} {F : Addr → Prop} : ∀ {vs : List V} {ds : List D}, ShRs K hd H F vs ds → ds.all (fun d => !isH d) = true → Shs K H F vs ds
  | _, _, .nil, _ => .nil
  | _, _, .cons h hs, e => by
    rw [List.all_cons, Bool.and_eq_true] at e
    rcases h with h | ⟨rfl, _⟩
    · exact .cons h (noH hs e.2)
    · cases e.1
theorem ShRs.length {K : PySem.W.Frag} {hd : Option Addr} {H : Hp} {F : Addr → Prop} : ∀ {vs : List V} {ds : List D}, ShRs K hd H F vs ds → vs.length = ds.length
  | _, _, .nil => rfl
  | _, _, .cons _ hs => congrArg (· + 1) (ShRs.length hs)
theorem w_tup {l : ML} (σ : L2.St) (H : Hp) (Q : VK) (q : T G .sh true (mTup l) σ H Q) : L2.tTup (TL G true l) σ H Q := by
  obtain ⟨st, O, S, q⟩ := q
  refine ⟨st, O, S, R.all_mono (fun p q vs H1 O1 s1 S1 r1 => ?_) (R.all_bind q)⟩
  cases e : (lenOk p.1.length && p.1.all (fun d => !isH d)) with
  | false => simp only [e] at q; exact q.elim
  | true =>
    simp only [e] at q
    rw [Bool.and_eq_true] at e
    refine ⟨by rw [r1.length]; exact Nat.le_of_lt (lenOk_le e.1), fun a ha => ?_⟩
    obtain ⟨s2, S2, r2⟩ := end_tup S1 ha (noH r1 e.2)
    exact q _ _ _ (s1.trans s2 S2.hO) S2 r2
theorem w_lst {l : ML} (σ : L2.St) (H : Hp) (Q : VK) (q : T G .ow true (mLst l) σ H Q) : L2.tLst (TL G true l) σ H Q := by
  obtain ⟨st, O, S, q⟩ := q
  refine ⟨st, O, S, R.all_mono (fun p q vs H1 O1 s1 S1 r1 => ?_) (R.all_bind q)⟩
  cases e : (lenOk p.1.length && p.1.all (fun d => !isH d)) with
  | false => simp only [e] at q; exact q.elim
  | true =>
    simp only [e] at q
    rw [Bool.and_eq_true] at e
    refine ⟨by rw [r1.length]; exact Nat.le_of_lt (lenOk_le e.1), fun a ha => ?_⟩
    obtain ⟨s2, S2, r2⟩ := end_lst S1 ha (noH r1 e.2)
    exact q _ _ _ (s1.trans s2 S2.hO) S2 r2
end
end EV
/-! what is walked, targets, comprehensions -/
namespace EV
open PySem PySem.Spec PyProof.Rows L2
/-! targets -/
inductive Pat where
  | nm (i : Nat) | nil | cons (p q : Pat) | tp (p : Pat)
/-- one value to a target; a list of values to a list of targets -/
def asg : Pat → D → AS → Option AS
  | .nm i, d, st => some (st.set i (some d))
  | .tp p, d, st => match d with | .tup ds => asg p (.lst ds) st | .lst ds => asg p (.lst ds) st | _ => none
  | .nil, d, st => match d with | .lst [] => some st | _ => none
  | .cons p q, d, st => match d with | .lst (x :: xs) => (match asg p x st with | some st' => asg q (.lst xs) st' | none => none) | _ => none
def pslots : Pat → List Nat
  | .nm i => [i]
  | .nil => []
  | .cons p q => pslots p ++ pslots q
  | .tp p => pslots p
/-- the shape of a target -/
def plen : Pat → Option Nat
  | .nil => some 0
  | .cons _ q => (plen q).map (· + 1)
  | _ => none
def isTp : Pat → Bool
  | .nil => false
  | .cons .. => false
  | _ => true
def isNm : Pat → Bool
  | .nm _ => true
  | _ => false
structure Same2 (σ σ' : L2.St) (vs : List Nat) : Prop where
  len : σ'.length = σ.length
  out : ∀ j : Nat, j ∉ vs → σ'[j]? = σ[j]?
theorem Same2.refl {σ : L2.St} {vs : List Nat} : Same2 σ σ vs := ⟨rfl, fun _ _ => rfl⟩
theorem Same2.mono {σ σ' : L2.St} {vs ws : List Nat} (h : Same2 σ σ' vs) (hs : ∀ j ∈ vs, j ∈ ws) : Same2 σ σ' ws := ⟨h.len, fun j hj => h.out j fun z => hj (hs j z)⟩
theorem Same2.trans {σ σ1 σ2 : L2.St} {vs : List Nat} (a : Same2 σ σ1 vs) (b : Same2 σ1 σ2 vs) : Same2 σ σ2 vs := ⟨b.len.trans a.len, fun j hj => (b.out j hj).trans (a.out j hj)⟩
def TPat (G : Cn) (p : Pat) : TG := fun v σ H Q => ∃ st O d st', SR G st σ H O ∧ ShR G.K G.hd H (G.F O) v d ∧ asg p d st = some st' ∧ ∀ σ', SR G st' σ' H O → Same2 σ σ' (pslots p) → Q σ' H
def TPats (G : Cn) (p : Pat) : TGs := fun vs σ H Q => ∃ st O ds st', SR G st σ H O ∧ ShRs G.K G.hd H (G.F O) vs ds ∧ asg p (.lst ds) st = some st' ∧ ∀ σ', SR G st' σ' H O → Same2 σ σ' (pslots p) → Q σ' H
theorem PG.weak {X : Cx} {e : Expr} {t t' : TG} (h : PG X e t) (w : ∀ v σ H Q, t' v σ H Q → t v σ H Q) : PG X e t' := ⟨fun pins s σ H v u Q I r q => h.run pins s σ H v u Q I r (w v σ H Q q)⟩
theorem PGs.weak {X : Cx} {e : List Expr} {t t' : TGs} (h : PGs X e t) (w : ∀ v σ H Q, t' v σ H Q → t v σ H Q) : PGs X e t' := ⟨fun pins s σ H v u Q I r q => h.run pins s σ H v u Q I r (w v σ H Q q)⟩
theorem Shs.up {K : PySem.W.Frag} {hd : Option Addr} {H : Hp} {F : Addr → Prop} : ∀ {vs : List V} {ds : List D}, Shs K H F vs ds → ShRs K hd H F vs ds
  | _, _, .nil => .nil
  | _, _, .cons h hs => .cons (.inl h) (Shs.up hs)
section
variable {X : Cx} {G : Cn}
theorem g_nm {i : Nat} {e : Expr} (h : PG X e (gName i)) (hk : G.kd i = false) : PG X e (TPat G (.nm i)) := PG.weak h fun v σ H Q q => by
  obtain ⟨st, O, d, st', S, r, e1, q⟩ := q
  cases e1
  exact q _ (S.putS hk r) ⟨by simp, fun j hj => List.getElem?_set_ne (fun z => hj (by simp [pslots, z]))⟩
theorem g_nil : PGs X [] (TPats G .nil) := PGs.weak pgs_nil fun vs σ H Q q => by
  obtain ⟨st, O, ds, st', S, r, e1, q⟩ := q
  cases ds with
  | nil => cases r; cases e1; exact ⟨rfl, q σ S Same2.refl⟩
  | cons x xs => cases e1
theorem g_cons {e : Expr} {es : List Expr} {p p2 : Pat} (h : PG X e (TPat G p)) (h2 : PGs X es (TPats G p2)) (hs : notStar e = true) : PGs X (e :: es) (TPats G (.cons p p2)) := by
  have hs' : (assignEach (e :: es) X.env).map (·.2) = assign e X.env :: (assignEach es X.env).map (·.2) := by
    cases e <;> first | rfl | cases hs
  refine PGs.weak (pgs_cons h h2 hs') fun vs σ H Q q => ?_
  obtain ⟨st, O, ds, st', S, r, e1, q⟩ := q
  cases ds with
  | nil => cases e1
  | cons x xs =>
    cases r with
    | cons r1 r2 =>
      have e1 : (match asg p x st with | some st' => asg p2 (.lst xs) st' | none => none) = some st' := e1
      cases e2 : asg p x st with
      | none => rw [e2] at e1; cases e1
      | some st1 =>
        rw [e2] at e1
        refine ⟨_, _, rfl, st, O, x, st1, S, r1, e2, fun σ1 S1 m1 => ⟨st1, O, xs, st', S1, r2, e1, fun σ2 S2 m2 => q σ2 S2 ?_⟩⟩
        exact (m1.mono fun j hj => by simp [pslots, hj]).trans (m2.mono fun j hj => by simp [pslots, hj])
theorem len_asg {es : List Expr} {env : Env} : (assignEach es env).length = es.length := by
  induction es with
  | nil => rfl
  | cons e es ih => cases e <;> exact congrArg (· + 1) ih
theorem star_asg {es : List Expr} {env : Env} (h : es.all notStar = true) : (assignEach es env).findIdx? (·.1) = none := by
  have : (assignEach es env).any (·.1) = false := by
    induction es with
    | nil => rfl
    | cons e es ih =>
      rw [List.all_cons, Bool.and_eq_true] at h
      have := ih h.2
      cases e <;> first | (show (false || _) = false; rw [Bool.false_or]; exact this) | cases h.1
  rw [List.findIdx?_eq_none_iff]
  intro x hx
  cases e : x.1 with
  | false => rfl
  | true =>
    have : (assignEach es env).any (·.1) = true := List.any_eq_true.mpr ⟨x, hx, e⟩
    simp_all
theorem plen_asg : ∀ {p : Pat} {n : Nat} {d : D} {st st' : AS}, plen p = some n → asg p d st = some st' → ∃ ds, d = .lst ds ∧ ds.length = n
  | .nil, n, d, st, st', h, e => by
    cases h
    cases d with
    | lst ds => cases ds with | nil => exact ⟨[], rfl, rfl⟩ | cons _ _ => cases e
    | _ => cases e
  | .cons p q, n, d, st, st', h, e => by
    obtain ⟨m, hm, rfl⟩ := Option.map_eq_some_iff.mp (show (plen q).map (· + 1) = some n from h)
    cases d with
    | lst ds =>
      cases ds with
      | nil => cases e
      | cons x xs =>
        have e : (match asg p x st with | some st' => asg q (.lst xs) st' | none => none) = some st' := e
        cases e2 : asg p x st with
        | none => rw [e2] at e; cases e
        | some st1 =>
          rw [e2] at e
          obtain ⟨ds, h1, h2⟩ := plen_asg hm e
          cases h1
          exact ⟨_, rfl, by rw [List.length_cons, h2]⟩
    | _ => cases e
  | .nm _, _, _, _, _, h, _ => nomatch h
  | .tp _, _, _, _, _, h, _ => nomatch h
theorem pg_or {e : Expr} {t t' : TG} (h : PG X e t) (h' : PG X e t') : PG X e (fun v σ H Q => t v σ H Q ∨ t' v σ H Q) := ⟨fun pins s σ H v u Q I r q => q.elim (h.run pins s σ H v u Q I r) (h'.run pins s σ H v u Q I r)⟩
theorem g_tup {es : List Expr} {k : Nat} {pos : Pos} {p : Pat} (hK : X.K = G.K) (hc : X.calm = true) (h : PGs X es (TPats G p)) (hl : plen p = some es.length) (hst : es.all notStar = true) : PG X (.Tuple es k pos) (TPat G (.tp p)) := by
  refine PG.weak (pg_or (pg_tup (n := es.length) hc h len_asg (star_asg hst)) (pg_unl (n := es.length) hc h len_asg (star_asg hst))) fun v σ H Q q => ?_
  obtain ⟨st, O, d, st', S, r, e1, q⟩ := q
  cases d with
  | tup ds =>
    have e1 : asg p (.lst ds) st = some st' := e1
    obtain ⟨a, vs, rfl, ha, hvs⟩ := VR.tup (st := st) (σ := σ) (.inl r)
    obtain ⟨ds', h1, h2⟩ := plen_asg hl e1
    cases h1
    exact .inl ⟨a, vs, rfl, by rw [hK]; exact ha, by rw [hvs.length, h2], st, O, ds, st', S, hvs.up, e1, q⟩
  | lst ds =>
    have e1 : asg p (.lst ds) st = some st' := e1
    obtain ⟨a, vs, rfl, ha, hvs⟩ := VR.lst (st := st) (σ := σ) (.inl r)
    obtain ⟨ds', h1, h2⟩ := plen_asg hl e1
    cases h1
    exact .inr ⟨a, vs, rfl, .inl ha, by rw [hvs.length, h2], st, O, ds, st', S, hvs.up, e1, q⟩
  | _ => cases e1
end
/-! sources -/
abbrev MI := AS → R (List D × AS)
abbrev Cn.at (G : Cn) (B : Addr → Prop) : Cn := { G with B := B }
structure ItOk (G : Cn) (pl : Bool) (J : It) (ds : List D) (H0 : Hp) (O0 : Addr → Prop) : Prop where
  ex : ∃ W : (Addr → Prop) → Hp → (Addr → Prop) → Prop, W G.B H0 O0 ∧ (∀ B (st : AS) (σ : L2.St) H O H' O', W B H O → SR (G.at B) st σ H O → Stp pl G.hd O H O' H' → W B H' O') ∧
    (∀ B (i : Nat) (st : AS) (σ : L2.St) H O, W B H O → SR (G.at B) st σ H O → (i < ds.length → J.go i H ∧ ∀ x H', J.yld i H x H' → ∃ d, ds[i]? = some d ∧ Stp true G.hd O H O H' ∧ SR (G.at B) st σ H' O ∧ ShR G.K G.hd H' ((G.at B).F O) x d) ∧ (ds.length ≤ i → J.stop i H)) ∧
    (∀ B (A : Addr) (st : AS) (σ : L2.St) H O, W B H O → SR (G.at B) st σ H O → H A = none → W (fun b => B b ∨ b = A) (upd H A (.lst [])) O) ∧
    ∀ B (A : Addr) (ys : List V) H O, W B H O → B A → (∃ xs, H A = some (.lst xs)) → W B (upd H A (.lst ys)) O
def TSrc (G : Cn) (pu pl : Bool) (m : MI) : TI := fun σ H R => ∃ st O, SR G st σ H O ∧ (m st).all fun p => ∀ J H' O', Stp pu G.hd O H O' H' → SR G p.2 σ H' O' → ItOk G pl J p.1 H' O' → R J H'
def sSeq (m : ME) : MI := fun st => (m st).bind fun p => match p.1 with | .lst xs => .ok (xs, p.2) | .tup xs => .ok (xs, p.2) | _ => .bad
def rng (lo : Int) : Nat → List D
  | 0 => []
  | n + 1 => .int lo :: rng (lo + 1) n
theorem rng_get : ∀ {n : Nat} {lo : Int} {i : Nat}, i < n → (rng lo n)[i]? = some (.int (lo + i))
  | 0, _, _, h => absurd h (Nat.not_lt_zero _)
  | n + 1, lo, 0, _ => by show some (D.int lo) = _; simp
  | n + 1, lo, i + 1, h => by
    show (rng (lo + 1) n)[i]? = _
    rw [rng_get (Nat.lt_of_succ_lt_succ h)]
    congr 2
    omega
theorem rng_len : ∀ {n : Nat} {lo : Int}, (rng lo n).length = n
  | 0, _ => rfl
  | n + 1, lo => by show (rng (lo + 1) n).length + 1 = _; rw [rng_len]
def fits62 (i : Int) : Bool := decide (-(2 ^ 62) ≤ i) && decide (i < 2 ^ 62)
def sR1 (m : ME) : MI := fun st => (m st).bind fun p => match p.1 with | .int n => (match fits62 n with | true => .ok (rng 0 n.toNat, p.2) | false => .bad) | _ => .bad
def sR2 (a b : ME) : MI := fun st => (a st).bind fun p => (b p.2).bind fun q => match p.1 with
  | .int i => match q.1 with
    | .int j => match fits62 i && fits62 j with | true => .ok (rng i (j - i).toNat, q.2) | false => .bad
    | _ => .bad
  | _ => .bad
def zipD : List D → List D → List D
  | x :: xs, ys => match ys with | y :: ys => .tup [x, y] :: zipD xs ys | [] => []
  | [], _ => []
theorem zipD_get : ∀ {xs ys : List D} {i : Nat} {x y : D}, xs[i]? = some x → ys[i]? = some y → (zipD xs ys)[i]? = some (.tup [x, y])
  | [], _, _, _, _, h, _ => by simp at h
  | _ :: _, [], _, _, _, _, h => by simp at h
  | a :: xs, b :: ys, 0, x, y, h, h2 => by simp at h h2; subst h h2; rfl
  | a :: xs, b :: ys, i + 1, x, y, h, h2 => by
    show (zipD xs ys)[i]? = _
    exact zipD_get (by simpa using h) (by simpa using h2)
theorem zipD_len : ∀ {xs ys : List D}, (zipD xs ys).length = min xs.length ys.length
  | [], _ => by simp [zipD]
  | _ :: _, [] => by simp [zipD]
  | a :: xs, b :: ys => by
    show (zipD xs ys).length + 1 = _
    rw [zipD_len, List.length_cons, List.length_cons]
    omega
def sZip (a b : ME) : MI := fun st => (a st).bind fun p => (b p.2).bind fun q => match p.1 with
  | .lst xs => match q.1 with | .lst ys => .ok (zipD xs ys, q.2) | _ => .bad
  | .tup xs => match q.1 with | .tup ys => .ok (zipD xs ys, q.2) | _ => .bad
  | _ => .bad
def enumD (i : Int) : List D → List D
  | [] => []
  | x :: xs => .tup [.int i, x] :: enumD (i + 1) xs
theorem enumD_get : ∀ {xs : List D} {i : Nat} {k : Int} {x : D}, xs[i]? = some x → (enumD k xs)[i]? = some (.tup [.int (k + i), x])
  | [], _, _, _, h => by simp at h
  | a :: xs, 0, k, x, h => by simp at h; subst h; show some _ = _; simp
  | a :: xs, i + 1, k, x, h => by
    show (enumD (k + 1) xs)[i]? = _
    rw [enumD_get (by simpa using h)]
    congr 4
    omega
theorem enumD_len : ∀ {xs : List D} {k : Int}, (enumD k xs).length = xs.length
  | [], _ => rfl
  | a :: xs, k => by show (enumD (k + 1) xs).length + 1 = _; rw [enumD_len]; rfl
def sEnum (m : ME) : MI := fun st => (m st).bind fun p => match p.1 with | .lst xs => .ok (enumD 0 xs, p.2) | _ => .bad
theorem PI.weak {X : Cx} {tg e : Expr} {t t' : TI} (h : PI X tg e t) (w : ∀ σ H R, t' σ H R → t σ H R) : PI X tg e t' := ⟨fun pins s σ H Q I q => h.run pins s σ H Q I (w σ H Q q)⟩
section
variable {X : Cx} {G : Cn} {tg : Expr}
theorem sql_inj {H : Hp} {a : Addr} {xs ys : List V} (h : Rd H a (.lst xs)) (h' : Rd H a (.lst ys)) : xs = ys := by
  rcases h with h | ⟨o, h⟩ <;> rcases h' with h' | ⟨o', h'⟩ <;> rw [h] at h' <;> cases h' <;> rfl
theorem rd_upd {H : Hp} {A a : Addr} {o u : HO} (hA : H A = none) (h : Rd H a u) : Rd (upd H A o) a u := h.imp (fun q => upd_keep hA a _ q) fun ⟨c, q⟩ => ⟨c, upd_keep hA a _ q⟩
theorem rd_ne {H : Hp} {A a : Addr} {u : HO} (hA : H A = none) (h : Rd H a u) : a ≠ A := by
  rintro rfl
  rcases h with h | ⟨o, h⟩ <;> rw [hA] at h <;> cases h
theorem shs_add {K : PySem.W.Frag} {H : Hp} {A : Addr} {o : HO} {B O : Addr → Prop} (hA : H A = none) {vs : List V} {ds : List D} (h : Shs K H (fun b => B b ∨ O b) vs ds) : Shs K (upd H A o) (fun b => (B b ∨ b = A) ∨ O b) vs ds :=
  h.step (fun a u r _ => rd_upd hA r) fun a xs r z => by
    rcases z with (z | z) | z
    · exact .inl z
    · exact absurd z (rd_ne hA r)
    · exact .inr z
theorem rd_set {H : Hp} {A a : Addr} {o u : HO} (hne : a ≠ A) (h : Rd H a u) : Rd (upd H A o) a u := h.imp (fun q => by rw [upd_ne hne]; exact q) fun ⟨c, q⟩ => ⟨c, by rw [upd_ne hne]; exact q⟩
theorem shs_set {K : PySem.W.Frag} {H : Hp} {A : Addr} {ys : List V} {F : Addr → Prop} (hF : F A) (hA : ∃ xs, H A = some (.lst xs)) {vs : List V} {ds : List D} (h : Shs K H F vs ds) : Shs K (upd H A (.lst ys)) F vs ds :=
  h.step (fun a u r n => rd_set (by
    rintro rfl
    obtain ⟨xs, e⟩ := hA
    rcases r with r | ⟨o, r⟩
    · rw [e] at r; cases r; exact n xs rfl hF
    · rw [e] at r; cases r) r) fun a xs r z => z
theorem sh_set {K : PySem.W.Frag} {H : Hp} {A : Addr} {ys : List V} {F : Addr → Prop} (hF : F A) (hA : ∃ xs, H A = some (.lst xs)) {v : V} {d : D} (h : Sh K H F v d) : Sh K (upd H A (.lst ys)) F v d := by
  have := shs_set (ys := ys) hF hA (.cons h .nil)
  cases this
  assumption
theorem it_list {pl : Bool} {a : Addr} {vs : List V} {ds : List D} {H : Hp} {O : Addr → Prop} (hr : Rd H a (.lst vs)) (hf : pl = true ∨ ¬ G.F O a) (hh : ¬ G.B a) (hn : ∀ x, G.hd = some x → G.B x) (hs : Shs G.K H (G.F O) vs ds) : ItOk G pl (Itl G.K a) ds H O := by
  refine ⟨fun B H O => Rd H a (.lst vs) ∧ (pl = true ∨ ¬ O a) ∧ ¬ B a ∧ (∀ x, G.hd = some x → B x) ∧ Shs G.K H ((G.at B).F O) vs ds, ⟨hr, hf.imp id (fun z y => z (.inr y)), hh, hn, hs⟩, ?_, ?_, ?_, ?_⟩
  · rintro B st σ H O H' O' ⟨h1, h2, h3, h4, h5⟩ S sp
    refine ⟨?_, ?_, h3, h4, S.cars0 sp h5⟩
    · rcases h1 with h1 | ⟨o, h1⟩
      · exact .inl (sp.pr a _ h1 h2 fun z => h3 (h4 a z))
      · exact .inr ⟨o, sp.pr a _ h1 h2 fun z => h3 (h4 a z)⟩
    · rcases h2 with h2 | h2
      · exact .inl h2
      · refine .inr fun z => ?_
        rcases sp.nw a z with z | z
        · exact h2 z
        · rcases h1 with h1 | ⟨o, h1⟩ <;> rw [z] at h1 <;> cases h1
  · rintro B i st σ H O ⟨h1, h2, h3, h4, h5⟩ S
    refine ⟨fun hi => ?_, fun hi => ⟨vs, .inl h1, by rw [h5.length]; exact hi⟩⟩
    obtain ⟨v, e1, r1⟩ := h5.get (List.getElem?_eq_getElem hi)
    refine ⟨⟨vs, v, .inl h1, e1⟩, ?_⟩
    rintro x H' ⟨rfl, hy⟩
    refine ⟨_, List.getElem?_eq_getElem hi, Stp.refl, S, .inl ?_⟩
    have := hy vs (.inl h1)
    rw [e1] at this
    cases this
    exact r1
  · rintro B A st σ H O ⟨h1, h2, h3, h4, h5⟩ S hA
    exact ⟨rd_upd hA h1, h2, fun z => z.elim h3 (rd_ne hA h1), fun x e => .inl (h4 x e), shs_add hA h5⟩
  · rintro B A ys H O ⟨h1, h2, h3, h4, h5⟩ hB hA
    exact ⟨rd_set (fun z => h3 (z ▸ hB)) h1, h2, h3, h4, shs_set (.inl hB) hA h5⟩
theorem sqt_upd {K : PySem.W.Frag} {H : Hp} {A a : Addr} {o : HO} {xs : List V} (hA : H A = none) (h : SqT K H a xs) : SqT K (upd H A o) a xs := h.imp (rd_upd hA) id
theorem sqt_set {K : PySem.W.Frag} {H : Hp} {A a : Addr} {ys xs : List V} (hA : ∃ xs, H A = some (.lst xs)) (h : SqT K H a xs) : SqT K (upd H A (.lst ys)) a xs := h.imp (fun r => rd_set (by
  rintro rfl
  obtain ⟨zs, e⟩ := hA
  rcases r with r | ⟨o, r⟩ <;> rw [e] at r <;> cases r) r) id
theorem it_tup {pl : Bool} {a : Addr} {vs : List V} {ds : List D} {H : Hp} {O : Addr → Prop} (hr : SqT G.K H a vs) (hs : Shs G.K H (G.F O) vs ds) : ItOk G pl (Itt G.K a) ds H O := by
  refine ⟨fun B H O => SqT G.K H a vs ∧ Shs G.K H ((G.at B).F O) vs ds, ⟨hr, hs⟩, ?_, ?_, ?_, ?_⟩
  · rintro B st σ H O H' O' ⟨h1, h3⟩ S sp
    refine ⟨h1.imp (fun q => (S.stp sp).1 a _ q fun xs e => nomatch e) id, S.cars0 sp h3⟩
  · rintro B i st σ H O ⟨h1, h3⟩ S
    refine ⟨fun hi => ?_, fun hi => ⟨vs, h1, by rw [h3.length]; exact hi⟩⟩
    obtain ⟨v, e1, r1⟩ := h3.get (List.getElem?_eq_getElem hi)
    refine ⟨⟨vs, v, h1, e1⟩, ?_⟩
    rintro x H' ⟨rfl, hy⟩
    refine ⟨_, List.getElem?_eq_getElem hi, Stp.refl, S, .inl ?_⟩
    have := hy vs h1
    rw [e1] at this
    cases this
    exact r1
  · rintro B A st σ H O ⟨h1, h3⟩ S hA
    exact ⟨sqt_upd hA h1, shs_add hA h3⟩
  · rintro B A ys H O ⟨h1, h3⟩ hB hA
    exact ⟨sqt_set hA h1, shs_set (.inl hB) hA h3⟩
theorem it_rng {pl : Bool} {lo : Int} {n : Nat} {H : Hp} {O : Addr → Prop} : ItOk G pl (Itr lo n) (rng lo n) H O := by
  refine ⟨fun _ _ _ => True, trivial, fun _ _ _ _ _ _ _ _ _ _ => trivial, fun B i st σ H O _ S => ⟨fun hi => ?_, fun hi => by rw [rng_len] at hi; exact hi⟩, fun _ _ _ _ _ _ _ _ _ => trivial, fun _ _ _ _ _ _ _ _ => trivial⟩
  rw [rng_len] at hi
  refine ⟨hi, ?_⟩
  rintro x H' ⟨rfl, rfl⟩
  exact ⟨_, rng_get hi, Stp.refl, S, .inl (.int _)⟩
end
end EV
namespace EV
open PySem PySem.Spec PyProof.Rows L2 RZ
section
variable {X : Cx} {G : Cn} {tg : Expr}
/-- a list or a tuple is walked -/
def iSeq (K : PySem.W.Frag) (tl : TE) : TI := fun σ H Z => tl σ H fun x H1 => ∃ a, x = .ref a ∧ (((∃ xs, SqL K H1 a xs) ∧ Z (Itl K a) H1) ∨ ((∃ xs, SqT K H1 a xs) ∧ Z (Itt K a) H1))
theorem pi_seq {l : Expr} {tl : TE} (hl : PE X l tl) : PI X tg l (iSeq X.K tl) := by
  refine ⟨fun pins s σ H Z I h => thn (hl.run pins s σ H _ I h) fun v s1 z => ?_⟩
  obtain ⟨x, H1, I1, r1, a, rfl, q⟩ := z
  cases r1
  have fp : ∀ b ∈ [s1.heap.objs.size], FpOk X pins H1 b := fun b hb => by
    cases List.mem_singleton.mp hb
    exact I1.fpOk (Nat.le_refl _) (I1.hok.fresh (Nat.le_refl _))
  rcases q with ⟨⟨xs, hq⟩, q⟩ | ⟨⟨xs, hq⟩, q⟩
  · obtain ⟨its, rv, p, hz⟩ := I1.list hq
    exact wpAny_pyIter_list p.isList ⟨_, _, _, _, H1, rfl, I1.kept (t' := s1.toks) (fun b o e => Heap.get?_push_of_some _ e), turn_list a _, ⟨_, Heap.get?_push_size _ rfl, rfl, rfl⟩, fp, q⟩
  · obtain ⟨its, rv, p, hz⟩ := I1.tuple hq
    exact wpAny_pyIter_tuple p ⟨_, _, _, _, H1, rfl, I1.kept (t' := s1.toks) (fun b o e => Heap.get?_push_of_some _ e), turn_tuple a _, ⟨_, Heap.get?_push_size _ rfl, rfl, rfl⟩, fp, q⟩
theorem i_sh {e : Expr} {m : ME} {pu : Bool} (hK : X.K = G.K) (h : PE X e (T G .sh pu m)) : PI X tg e (TSrc G pu false (sSeq m)) := PI.weak (pi_seq h) fun σ H Z q => by
  obtain ⟨st, O, S, q⟩ := q
  refine ⟨st, O, S, R.all_mono (fun p q v H1 O1 s1 S1 r1 => ?_) (R.all_bind q)⟩
  rw [hK]
  cases e : p.1 with
  | lst xs =>
    rw [e] at q r1
    rcases r1 with r1 | ⟨z, _⟩
    · cases r1 with
      | lst hr hf hs => exact ⟨_, rfl, .inl ⟨⟨_, .inl hr⟩, q _ H1 O1 s1 S1 (it_list hr (.inr hf) (fun z => hf (.inl z)) (fun x e => (S1.hn x e).1.1) hs)⟩⟩
    · cases z
  | tup xs =>
    rw [e] at q r1
    rcases r1 with r1 | ⟨z, _⟩
    · cases r1 with
      | tup hr hs => exact ⟨_, rfl, .inr ⟨⟨_, hr⟩, q _ H1 O1 s1 S1 (it_tup hr hs)⟩⟩
    · cases z
  | _ => rw [e] at q; exact q.elim
theorem i_br {e : Expr} {m : ME} (hK : X.K = G.K) (h : PE X e (T G .br true m)) : PI X tg e (TSrc G true true (sSeq m)) := PI.weak (pi_seq h) fun σ H Z q => by
  obtain ⟨st, O, S, q⟩ := q
  refine ⟨st, O, S, R.all_mono (fun p q v H1 O1 s1 S1 r1 => ?_) (R.all_bind q)⟩
  rw [hK]
  cases e : p.1 with
  | lst xs =>
    rw [e] at q r1
    rcases r1 with (r1 | ⟨z, _⟩) | ⟨a, ds, vs, rfl, e2, hh, hr, hs⟩
    · cases r1 with
      | lst hr hf hs => exact ⟨_, rfl, .inl ⟨⟨_, .inl hr⟩, q _ H1 O1 s1 S1 (it_list hr (.inl rfl) (fun z => hf (.inl z)) (fun x e => (S1.hn x e).1.1) hs)⟩⟩
    · cases z
    · cases e2
      exact ⟨_, rfl, .inl ⟨⟨_, .inl hr⟩, q _ H1 O1 s1 S1 (it_list hr (.inl rfl) hh (fun x e => (S1.hn x e).1.1) hs)⟩⟩
  | tup xs =>
    rw [e] at q r1
    obtain ⟨a, vs, rfl, hr, hs⟩ := r1.tup
    exact ⟨_, rfl, .inr ⟨⟨_, hr⟩, q _ H1 O1 s1 S1 (it_tup hr hs)⟩⟩
  | _ => rw [e] at q; exact q.elim
theorem i_r1 {a : Expr} {m : ME} {p pos : Pos} {pl : Bool} (hg : Gl X "range") (hm : X.mg "range" = none) (ha : PE X a (T G .sh true m)) (hs : notStar a = true) : PI X tg (.Call (.Name "range" p) [a] [] pos) (TSrc G true pl (sR1 m)) :=
  PI.weak (pi_range1 hg hm (pa_cons ha pa_nil (star_of hs)) (star_of hs)) fun σ H Z q => by
  obtain ⟨st, O, S, q⟩ := q
  refine ⟨st, O, S, R.all_mono (fun p q v H1 O1 s1 S1 r1 => ?_) (R.all_bind q)⟩
  cases e : p.1 with
  | int n =>
    rw [e] at q r1
    cases f : fits62 n with
    | true =>
      simp only [f] at q
      have f' := f
      unfold fits62 at f'
      rw [Bool.and_eq_true, decide_eq_true_eq, decide_eq_true_eq] at f'
      refine ⟨n, by rw [VR.int (st := st) (σ := σ) (.inl r1)], f'.1, f'.2, q _ H1 O1 s1 S1 it_rng⟩
    | false => simp only [f] at q; exact q.elim
  | _ => rw [e] at q; exact q.elim
theorem i_r2 {a b : Expr} {m n : ME} {p pos : Pos} {pl : Bool} (hg : Gl X "range") (hm : X.mg "range" = none) (ha : PE X a (T G .sh true m)) (hb : PE X b (T G .sh true n)) (hs : notStar a = true) (hs2 : notStar b = true) :
    PI X tg (.Call (.Name "range" p) [a, b] [] pos) (TSrc G true pl (sR2 m n)) :=
  PI.weak (pi_range2 hg hm (pa_cons ha (pa_cons hb pa_nil (star_of hs2)) (star_of hs)) (by rw [star_of hs, star_of hs2]; rfl) (star_of hs2)) fun σ H Z q => by
  obtain ⟨st, O, S, q⟩ := q
  refine ⟨st, O, S, R.all_mono (fun p q v H1 O1 s1 S1 r1 => ?_) (R.all_bind q)⟩
  refine ⟨p.2, O1, S1, R.all_mono (fun p2 q w H2 O2 s2 S2 r2 => ?_) (R.all_bind q)⟩
  cases e : p.1 with
  | int i =>
    rw [e] at q r1
    cases e2 : p2.1 with
    | int j =>
      rw [e2] at q r2
      cases f : (fits62 i && fits62 j) with
      | true =>
        simp only [f] at q
        have f' := f
        unfold fits62 at f'
        rw [Bool.and_eq_true, Bool.and_eq_true, Bool.and_eq_true, decide_eq_true_eq, decide_eq_true_eq, decide_eq_true_eq, decide_eq_true_eq] at f'
        refine ⟨i, j, by rw [VR.int (st := st) (σ := σ) (.inl r1), VR.int (st := st) (σ := σ) (.inl r2)], ⟨f'.1.1, f'.1.2, f'.2.1, f'.2.2⟩, q _ H2 O2 (s1.trans s2 S2.hO) S2 it_rng⟩
      | false => simp only [f] at q; exact q.elim
    | _ => rw [e2] at q; exact q.elim
  | _ => rw [e] at q; exact q.elim
/-- a new pair a turn -/
theorem yld_pair {st : AS} {σ : L2.St} {H H' : Hp} {O : Addr → Prop} {A : Addr} {x y v : V} {d e : D} (S : SR G st σ H O) (hx : Sh G.K H (G.F O) x d) (hy : Sh G.K H (G.F O) y e) (hT : H A = none) (h1 : v = .ref A) (h2 : H' = upd H A (.tup [x, y])) :
    Stp true G.hd O H O H' ∧ SR G st σ H' O ∧ ShR G.K G.hd H' (G.F O) v (.tup [d, e]) := by
  subst h1 h2
  exact end_tup S hT (.cons hx (.cons hy .nil))
theorem min_get {xs ys : List D} {i : Nat} (h : i < (zipD xs ys).length) : i < xs.length ∧ i < ys.length := by
  rw [zipD_len] at h
  omega
theorem stab {H H' : Hp} {O O' : Addr → Prop} {st : AS} {σ : L2.St} {a : Addr} {vs : List V} (S : SR G st σ H O) (sp : Stp false G.hd O H O' H') (h1 : Rd H a (.lst vs)) (h2 : ¬ G.F O a) : Rd H' a (.lst vs) ∧ ¬ G.F O' a := by
  refine ⟨?_, fun z => ?_⟩
  · rcases h1 with h1 | ⟨o, h1⟩
    · exact .inl (sp.pr a _ h1 (.inr fun y => h2 (.inr y)) fun z => h2 (S.hF a z))
    · exact .inr ⟨o, sp.pr a _ h1 (.inr fun y => h2 (.inr y)) fun z => h2 (S.hF a z)⟩
  · rcases z with z | z
    · exact h2 (.inl z)
    · rcases sp.nw a z with z | z
      · exact h2 (.inr z)
      · rcases h1 with h1 | ⟨o, h1⟩ <;> rw [z] at h1 <;> cases h1
theorem nF_add {B O : Addr → Prop} {H : Hp} {A a : Addr} {u : HO} (hA : H A = none) (h : Rd H a u) (n : ¬ (G.at B).F O a) : ¬ (G.at fun b => B b ∨ b = A).F O a := fun z => by
  rcases z with (z | z) | z
  · exact n (.inl z)
  · exact rd_ne hA h z
  · exact n (.inr z)
theorem it_zip {H : Hp} {O : Addr → Prop} {a b : Addr} {vs ws : List V} {xs ys : List D} (ha : Rd H a (.lst vs)) (na : ¬ G.F O a) (hb : Rd H b (.lst ws)) (nb : ¬ G.F O b) (hx : Shs G.K H (G.F O) vs xs) (hy : Shs G.K H (G.F O) ws ys) : ItOk G false (Itz G.K a b) (zipD xs ys) H O := by
  refine ⟨fun B H O => (Rd H a (.lst vs) ∧ ¬ (G.at B).F O a) ∧ (Rd H b (.lst ws) ∧ ¬ (G.at B).F O b) ∧ Shs G.K H ((G.at B).F O) vs xs ∧ Shs G.K H ((G.at B).F O) ws ys, ⟨⟨ha, na⟩, ⟨hb, nb⟩, hx, hy⟩, ?_, ?_, ?_, ?_⟩
  · rintro B st σ H O H' O' ⟨⟨h1, h2⟩, ⟨h3, h4⟩, h5, h6⟩ S sp
    exact ⟨stab S sp h1 h2, stab S sp h3 h4, S.cars0 sp h5, S.cars0 sp h6⟩
  · rintro B i st σ H O ⟨⟨h1, h2⟩, ⟨h3, h4⟩, h5, h6⟩ S
    refine ⟨fun hi => ?_, fun hi => ⟨vs, ws, .inl h1, .inl h3, by rw [zipD_len] at hi; rw [h5.length, h6.length]; omega⟩⟩
    obtain ⟨i1, i2⟩ := min_get hi
    obtain ⟨v, e1, r1⟩ := h5.get (List.getElem?_eq_getElem i1)
    obtain ⟨w, e2, r2⟩ := h6.get (List.getElem?_eq_getElem i2)
    refine ⟨⟨vs, ws, v, w, .inl h1, .inl h3, e1, e2⟩, ?_⟩
    rintro x H' ⟨A, x1, x2, ex, hA, eH, f1, f2⟩
    have g1 := f1 vs (.inl h1)
    have g2 := f2 ws (.inl h3)
    rw [e1] at g1
    rw [e2] at g2
    cases g1
    cases g2
    exact ⟨_, zipD_get (List.getElem?_eq_getElem i1) (List.getElem?_eq_getElem i2), yld_pair S r1 r2 hA ex eH⟩
  · rintro B A st σ H O ⟨⟨h1, h2⟩, ⟨h3, h4⟩, h5, h6⟩ S hA
    exact ⟨⟨rd_upd hA h1, nF_add hA h1 h2⟩, ⟨rd_upd hA h3, nF_add hA h3 h4⟩, shs_add hA h5, shs_add hA h6⟩
  · rintro B A zs H O ⟨⟨h1, h2⟩, ⟨h3, h4⟩, h5, h6⟩ hB hA
    exact ⟨⟨rd_set (fun z => h2 (.inl (z ▸ hB))) h1, h2⟩, ⟨rd_set (fun z => h4 (.inl (z ▸ hB))) h3, h4⟩, shs_set (.inl hB) hA h5, shs_set (.inl hB) hA h6⟩
theorem stabT {H H' : Hp} {O O' : Addr → Prop} {st : AS} {σ : L2.St} {a : Addr} {vs : List V} {pl : Bool} (S : SR G st σ H O) (sp : Stp pl G.hd O H O' H') (h : SqT G.K H a vs) : SqT G.K H' a vs := h.imp (fun q => (S.stp sp).1 a _ q fun xs e => nomatch e) id
theorem it_zipT {H : Hp} {O : Addr → Prop} {a b : Addr} {vs ws : List V} {xs ys : List D} (ha : SqT G.K H a vs) (hb : SqT G.K H b ws) (hx : Shs G.K H (G.F O) vs xs) (hy : Shs G.K H (G.F O) ws ys) : ItOk G false (ItzT G.K a b) (zipD xs ys) H O := by
  refine ⟨fun B H O => SqT G.K H a vs ∧ SqT G.K H b ws ∧ Shs G.K H ((G.at B).F O) vs xs ∧ Shs G.K H ((G.at B).F O) ws ys, ⟨ha, hb, hx, hy⟩, ?_, ?_, ?_, ?_⟩
  · rintro B st σ H O H' O' ⟨h1, h3, h5, h6⟩ S sp
    exact ⟨stabT (G := G.at B) S sp h1, stabT (G := G.at B) S sp h3, S.cars0 sp h5, S.cars0 sp h6⟩
  · rintro B i st σ H O ⟨h1, h3, h5, h6⟩ S
    refine ⟨fun hi => ?_, fun hi => ⟨vs, ws, h1, h3, by rw [zipD_len] at hi; rw [h5.length, h6.length]; omega⟩⟩
    obtain ⟨i1, i2⟩ := min_get hi
    obtain ⟨v, e1, r1⟩ := h5.get (List.getElem?_eq_getElem i1)
    obtain ⟨w, e2, r2⟩ := h6.get (List.getElem?_eq_getElem i2)
    refine ⟨⟨vs, ws, v, w, h1, h3, e1, e2⟩, ?_⟩
    rintro x H' ⟨A, x1, x2, ex, hA, eH, f1, f2⟩
    have g1 := f1 vs h1
    have g2 := f2 ws h3
    rw [e1] at g1
    rw [e2] at g2
    cases g1
    cases g2
    exact ⟨_, zipD_get (List.getElem?_eq_getElem i1) (List.getElem?_eq_getElem i2), yld_pair S r1 r2 hA ex eH⟩
  · rintro B A st σ H O ⟨h1, h3, h5, h6⟩ S hA
    exact ⟨sqt_upd hA h1, sqt_upd hA h3, shs_add hA h5, shs_add hA h6⟩
  · rintro B A zs H O ⟨h1, h3, h5, h6⟩ hB hA
    exact ⟨sqt_set hA h1, sqt_set hA h3, shs_set (.inl hB) hA h5, shs_set (.inl hB) hA h6⟩
theorem plain_back {pos : Pos} {es : List Expr} {env : Env} (h : es.all notStar = true) : (backTo pos (starEach es env)).any (·.1) = false := by
  induction es with
  | nil => rfl
  | cons e es ih =>
    rw [List.all_cons, Bool.and_eq_true] at h
    rw [star_of h.1]
    show (false || (backTo pos (starEach es env)).any (·.1)) = false
    rw [Bool.false_or]
    exact ih h.2
theorem i_zip {a b : Expr} {m n : ME} {p pos tpos : Pos} {elts : List Expr} {kk : Nat} (hK : X.K = G.K) (hg : Gl X "zip") (hm : X.mg "zip" = none) (ha : PE X a (T G .sh true m)) (hb : PE X b (T G .sh true n)) (hs : notStar a = true) (hs2 : notStar b = true) :
    PI X (.Tuple elts kk tpos) (.Call (.Name "zip" p) [a, b] [] pos) (TSrc G true false (sZip m n)) :=
  PI.weak (pi_zipA hg hm (pa_cons ha (pa_cons hb pa_nil (star_of hs2)) (star_of hs)) (star_of hs) (plain_back (by simp [hs2]))) fun σ H Z q => by
  obtain ⟨st, O, S, q⟩ := q
  refine ⟨st, O, S, R.all_mono (fun p q v H1 O1 s1 S1 r1 => ?_) (R.all_bind q)⟩
  refine ⟨p.2, O1, S1, R.all_mono (fun p2 q w H2 O2 s2 S2 r2 => ?_) (R.all_bind q)⟩
  have r1 := S1.car s2 r1
  rw [hK]
  cases e : p.1 with
  | lst xs =>
    rw [e] at q r1
    cases e2 : p2.1 with
    | lst ys =>
      rw [e2] at q r2
      rcases r1 with r1 | ⟨z, _⟩
      · rcases r2 with r2 | ⟨z, _⟩
        · cases r1 with
          | lst hr hf hs =>
            cases r2 with
            | lst hr2 hf2 hs2 => exact ⟨_, _, _, _, rfl, .inl ⟨.inl hr, .inl hr2, q _ H2 O2 (s1.trans s2 S2.hO) S2 (it_zip hr hf hr2 hf2 hs hs2)⟩⟩
        · cases z
      · cases z
    | _ => rw [e2] at q; exact q.elim
  | tup xs =>
    rw [e] at q r1
    cases e2 : p2.1 with
    | tup ys =>
      rw [e2] at q r2
      obtain ⟨c, vs, rfl, h1, h2⟩ := VR.tup (st := st) (σ := σ) (.inl r1)
      obtain ⟨d, ws, rfl, h3, h4⟩ := VR.tup (st := st) (σ := σ) (.inl r2)
      exact ⟨_, _, _, _, rfl, .inr ⟨h1, h3, q _ H2 O2 (s1.trans s2 S2.hO) S2 (it_zipT h1 h3 h2 h4)⟩⟩
    | _ => rw [e2] at q; exact q.elim
  | _ => rw [e] at q; exact q.elim
theorem i_pl {tg e : Expr} {m : MI} {pu : Bool} (h : PI X tg e (TSrc G pu false m)) : PI X tg e (TSrc G pu true m) := PI.weak h fun σ H Z q => by
  obtain ⟨st, O, S, q⟩ := q
  refine ⟨st, O, S, R.all_mono (fun p q J H1 O1 s1 S1 r1 => q J H1 O1 s1 S1 ?_) q⟩
  obtain ⟨W, w0, k, t⟩ := r1.ex
  exact ⟨W, w0, fun B st σ H O H' O' h S sp => k B st σ H O H' O' h S sp.weak, t⟩
end
/-! comprehensions -/
namespace R
variable {α β : Type}
def pall : R α → (α → Prop) → Prop
  | .ok a, p => p a
  | .dr n k, p => ∀ d, d < n → pall (k d) p
  | .bad, _ => True
theorem all_and {p q : α → Prop} : ∀ {x : R α}, x.all p → x.pall q → x.all fun a => p a ∧ q a
  | .ok _, h, g => ⟨h, g⟩
  | .dr _ _, h, g => fun d hd => all_and (h d hd) (g d hd)
  | .bad, h, _ => h
theorem pall_bind {p : β → Prop} {f : α → R β} : ∀ {x : R α}, (x.pall fun a => (f a).pall p) → (bind x f).pall p
  | .ok _, h => h
  | .dr _ _, h => fun d hd => pall_bind (h d hd)
  | .bad, h => h
theorem pall_mono {p q : α → Prop} (h : ∀ a, p a → q a) : ∀ {x : R α}, x.pall p → x.pall q
  | .ok _, g => h _ g
  | .dr _ _, g => fun d hd => pall_mono h (g d hd)
  | .bad, _ => trivial
end R
/-- the slots stay -/
def Fix {α : Type} (m : AS → R (α × AS)) : Prop := ∀ st, (m st).pall fun p => p.2 = st
/-- the items, one by one -/
def lcL (p : Pat) (c : MT) (e : ME) (st : AS) : List D → List D → R (List D)
  | [], acc => .ok acc
  | d :: r, acc => match asg p d st with
    | some st1 => (c st1).bind fun b => match b.1 with
      | true => (e st1).bind fun x => match isH x.1 || !(lenOk acc.length) with | true => .bad | false => lcL p c e st r (acc ++ [x.1])
      | false => lcL p c e st r acc
    | none => .bad
def mLc (s : MI) (p : Pat) (c : MT) (e : ME) (own : List Nat) : ME := fun st => (s st).bind fun x => (lcL p c e (wipeA x.2 own) x.1 []).bind fun l => .ok (.lst l, x.2)
def tYesM : MT := fun st => .ok (true, st)
theorem wipe_get {σ : L2.St} {j : Nat} : ∀ {vs : List Nat}, (L2.wipe σ vs)[j]? = if j ∈ vs ∧ j < σ.length then some none else σ[j]?
  | [] => by simp [L2.wipe]
  | v :: vs => by
    unfold L2.wipe
    by_cases e : v = j
    · subst e
      by_cases hl : v < σ.length
      · rw [List.getElem?_set_self (by rw [L2.wipe_length]; exact hl), if_pos ⟨by simp, hl⟩]
      · rw [List.getElem?_eq_none (by rw [List.length_set, L2.wipe_length]; omega), if_neg (by intro z; exact hl z.2), List.getElem?_eq_none (by omega)]
    · rw [List.getElem?_set_ne e, wipe_get]
      by_cases h : j ∈ vs ∧ j < σ.length
      · rw [if_pos h, if_pos ⟨by simp [h.1], h.2⟩]
      · rw [if_neg h, if_neg (by rintro ⟨z, hl⟩; rcases List.mem_cons.mp z with z | z; exact e z.symm; exact h ⟨z, hl⟩)]
theorem wipe_same {σ σ' : L2.St} {vs : List Nat} (h : Same2 σ σ' vs) : L2.wipe σ' vs = L2.wipe σ vs := by
  refine List.ext_getElem? fun j => ?_
  rw [wipe_get, wipe_get, h.len]
  by_cases hj : j ∈ vs
  · by_cases hl : j < σ.length
    · rw [if_pos ⟨hj, hl⟩, if_pos ⟨hj, hl⟩]
    · rw [if_neg (by intro z; exact hl z.2), if_neg (by intro z; exact hl z.2), List.getElem?_eq_none (by rw [h.len]; omega), List.getElem?_eq_none (by omega)]
  · rw [if_neg (by intro z; exact hj z.1), if_neg (by intro z; exact hj z.1), h.out j hj]
theorem wipe_wipe {σ : L2.St} {vs : List Nat} : L2.wipe (L2.wipe σ vs) vs = L2.wipe σ vs := wipe_same ⟨L2.wipe_length σ vs, fun j hj => by rw [wipe_get, if_neg (fun z => hj z.1)]⟩
section
variable {X : Cx} {G : Cn}
/-- no condition, one condition -/
theorem pts_y {X : Cx} {G : Cn} : PTs X [] (TB G true tYesM) := ⟨fun pins s σ H Q I q => by
  obtain ⟨st, O, S, q⟩ := q
  exact pts_nil.run pins s σ H Q I (q H O Stp.refl S)⟩
/-! the list that grows stands under the base while it grows -/
theorem SR.sub {B B' : Addr → Prop} {st : AS} {σ : L2.St} {H : Hp} {O : Addr → Prop} (S : SR (G.at B') st σ H O) (h : ∀ a, B a → B' a) (hb : ∀ a, G.hd = some a → B a ∧ B G.hc) : SR (G.at B) st σ H O where
  len := S.len
  val := fun i d e => by
    obtain ⟨v, e1, q⟩ := S.val i d e
    refine ⟨v, e1, ?_⟩
    have mn : ∀ a, (G.at B).F O a → (G.at B').F O a := fun a z => z.imp (h a) id
    cases hk : G.kd i with
    | true =>
      rw [hk] at q
      obtain ⟨a, rfl, ho, ds, vs, e2, e3, e4⟩ := q
      exact ⟨a, rfl, ho, ds, vs, e2, e3, e4.mono mn⟩
    | false =>
      rw [hk] at q
      exact ShR.mono mn q
  ap := S.ap
  tr := fun a z => S.tr a (z.imp (h a) id)
  bo := fun a z => S.bo a (h a z)
  hn := fun a e => by
    obtain ⟨q1, q2⟩ := S.hn a e
    exact ⟨⟨(hb a e).1, (hb a e).2, q1.2.2⟩, q2⟩
theorem SR.addB {B : Addr → Prop} {st : AS} {σ : L2.St} {H : Hp} {O : Addr → Prop} {A : Addr} (S : SR (G.at B) st σ H O) (hA : H A = none) : SR (G.at fun b => B b ∨ b = A) st σ (upd H A (.lst [])) O where
  len := S.len
  val := fun i d e => by
    obtain ⟨v, e1, q⟩ := S.val i d e
    refine ⟨v, e1, ?_⟩
    cases hk : G.kd i with
    | true =>
      rw [hk] at q
      obtain ⟨a, rfl, ho, ds, vs, e2, e3, e4⟩ := q
      exact ⟨a, rfl, ho, ds, vs, e2, upd_keep hA _ _ e3, shs_add hA e4⟩
    | false =>
      rw [hk] at q
      rcases q with q | q
      · have := shs_add (o := .lst []) (B := B) (O := O) hA (.cons q .nil)
        cases this
        exact .inl (by assumption)
      · exact .inr q
  ap := S.ap
  tr := fun a z => by
    by_cases e : a = A
    · subst e; exact ⟨[], upd_same⟩
    · obtain ⟨xs, q⟩ := S.tr a (by
        rcases z with (z | z) | z
        · exact .inl z
        · exact absurd z e
        · exact .inr z)
      exact ⟨xs, by rw [upd_ne e]; exact q⟩
  bo := fun a z y => by
    rcases z with z | z
    · exact S.bo a z y
    · obtain ⟨xs, q⟩ := S.tr a (.inr y)
      rw [z, hA] at q
      cases q
  hn := fun a e => by
    obtain ⟨q1, q2⟩ := (HandI.keep S.hn (upd_keep (o := .lst []) hA)) a e
    exact ⟨⟨.inl q1.1, .inl q1.2.1, q1.2.2⟩, q2⟩
theorem SR.setB {B : Addr → Prop} {st : AS} {σ : L2.St} {H : Hp} {O : Addr → Prop} {A : Addr} {ys : List V} (S : SR (G.at B) st σ H O) (hB : B A) (hA : ∃ xs, H A = some (.lst xs)) (hh : ∀ a, G.hd = some a → a ≠ A ∧ G.hc ≠ A) : SR (G.at B) st σ (upd H A (.lst ys)) O where
  len := S.len
  val := fun i d e => by
    obtain ⟨v, e1, q⟩ := S.val i d e
    refine ⟨v, e1, ?_⟩
    cases hk : G.kd i with
    | true =>
      rw [hk] at q
      obtain ⟨a, rfl, ho, ds, vs, e2, e3, e4⟩ := q
      exact ⟨a, rfl, ho, ds, vs, e2, by rw [upd_ne (fun (z : a = A) => S.bo A hB (z ▸ ho))]; exact e3, shs_set (.inl hB) hA e4⟩
    | false =>
      rw [hk] at q
      exact q.imp (sh_set (.inl hB) hA) id
  ap := S.ap
  tr := fun a z => by
    by_cases e : a = A
    · subst e; exact ⟨ys, upd_same⟩
    · obtain ⟨xs, q⟩ := S.tr a z
      exact ⟨xs, by rw [upd_ne e]; exact q⟩
  bo := S.bo
  hn := fun a e => by
    obtain ⟨q1, i, l, m, n, cs, q2, q3, q4⟩ := S.hn a e
    exact ⟨q1, i, l, m, n, cs, by rw [upd_ne (hh a e).1]; exact q2, by rw [upd_ne (hh a e).2]; exact q3, q4⟩
/-- what a pure step gave of some slots, told of all -/
theorem SR.mix {st st' : AS} {σ σ' : L2.St} {H H' : Hp} {O O' : Addr → Prop} (S : SR G st σ H O) (S' : SR G st' σ' H' O') (sp : Stp true G.hd O H O' H') (hM : ∀ i d, G.kd i = true → st[i]? = some (some d) → st'[i]? = some (some d) ∧ σ'[i]? = σ[i]?) : SR G st σ H' O' where
  len := S.len
  val := fun i d e => by
    cases hk : G.kd i with
    | true =>
      obtain ⟨h1, h2⟩ := hM i d hk e
      obtain ⟨v, e1, q⟩ := S'.val i d h1
      rw [hk] at q
      exact ⟨v, by rw [← h2]; exact e1, q⟩
    | false =>
      obtain ⟨v, e1, q⟩ := S.val i d e
      rw [hk] at q
      exact ⟨v, e1, S.car sp q⟩
  ap := S.ap
  tr := S'.tr
  bo := S'.bo
  hn := S'.hn
theorem asg_out : ∀ {p : Pat} {d : D} {st st' : AS} {i : Nat}, asg p d st = some st' → i ∉ pslots p → st'[i]? = st[i]?
  | .nm j, d, st, st', i, e, h => by
    cases e
    exact List.getElem?_set_ne (fun z => h (by simp [pslots, z]))
  | .tp p, d, st, st', i, e, h => by
    cases d with
    | tup ds => exact asg_out (p := p) (d := .lst ds) e h
    | lst ds => exact asg_out (p := p) (d := .lst ds) e h
    | _ => cases e
  | .nil, d, st, st', i, e, h => by
    cases d with
    | lst ds => cases ds with | nil => cases e; rfl | cons _ _ => cases e
    | _ => cases e
  | .cons p q, d, st, st', i, e, h => by
    cases d with
    | lst ds =>
      cases ds with
      | nil => cases e
      | cons x xs =>
        have e : (match asg p x st with | some st' => asg q (.lst xs) st' | none => none) = some st' := e
        cases e2 : asg p x st with
        | none => rw [e2] at e; cases e
        | some st1 =>
          rw [e2] at e
          rw [asg_out e (fun z => h (by simp [pslots, z])), asg_out e2 (fun z => h (by simp [pslots, z]))]
    | _ => cases e
theorem wipeA_get {st : AS} {j : Nat} : ∀ {vs : List Nat}, j ∉ vs → (wipeA st vs)[j]? = st[j]?
  | [], _ => rfl
  | v :: vs, h => by
    unfold wipeA
    rw [List.getElem?_set_ne (fun z => h (by simp [z])), wipeA_get (fun z => h (by simp [z]))]
/-- the grown list goes from the base to what is owned -/
theorem SR.unB {B : Addr → Prop} {st : AS} {σ : L2.St} {H : Hp} {O : Addr → Prop} {A : Addr} (S : SR (G.at fun b => B b ∨ b = A) st σ H O) (hBA : ¬ B A) (hb : ∀ a, G.hd = some a → B a ∧ B G.hc) : SR (G.at B) st σ H (fun b => O b ∨ b = A) where
  len := S.len
  val := fun i d e => by
    obtain ⟨v, e1, q⟩ := S.val i d e
    refine ⟨v, e1, ?_⟩
    have mn : ∀ a, (G.at B).F (fun b => O b ∨ b = A) a → (G.at fun b => B b ∨ b = A).F O a := fun a z => by
      rcases z with z | z | z
      · exact .inl (.inl z)
      · exact .inr z
      · exact .inl (.inr z)
    cases hk : G.kd i with
    | true =>
      rw [hk] at q
      obtain ⟨a, rfl, ho, ds, vs, e2, e3, e4⟩ := q
      exact ⟨a, rfl, .inl ho, ds, vs, e2, e3, e4.mono mn⟩
    | false =>
      rw [hk] at q
      exact ShR.mono mn q
  ap := S.ap
  tr := fun a z => by
    rcases z with z | z | z
    · exact S.tr a (.inl (.inl z))
    · exact S.tr a (.inr z)
    · exact S.tr a (.inl (.inr z))
  bo := fun a z y => by
    rcases y with y | y
    · exact S.bo a (.inl z) y
    · exact hBA (y ▸ z)
  hn := fun a e => by
    obtain ⟨q1, q2⟩ := S.hn a e
    exact ⟨⟨(hb a e).1, (hb a e).2, q1.2.2⟩, q2⟩
theorem w_lc {s : MI} {p : Pat} {c : MT} {e : ME} {own : List Nat} {B : Addr → Prop} {tc : TT} {te : TE} {tg : TG} (hc : Fix c) (he : Fix e) (hp : ∀ j ∈ pslots p, j ∈ own) (ho : ∀ j ∈ own, G.kd j = false)
    (wc : ∀ B σ H Q, TB (G.at B) true c σ H Q → tc σ H Q) (we : ∀ B σ H Q, T (G.at B) .sh true e σ H Q → te σ H Q) (wg : ∀ B v σ H Q, TPat (G.at B) p v σ H Q → tg v σ H Q) (σ : L2.St) (H : Hp) (Q : VK) (q : T (G.at B) .ow true (mLc s p c e own) σ H Q) :
    tLc (TSrc (G.at B) true true s) tg tc te own σ H Q := by
  obtain ⟨st, O, S, q⟩ := q
  refine ⟨st, O, S, R.all_mono (fun x q J H1 O1 s1 S1 it => ?_) (R.all_bind q)⟩
  obtain ⟨W, w0, wk, wt, wa, wu⟩ := it.ex
  intro A hA
  have hBA : ¬ B A := fun z => by
    obtain ⟨xs, e⟩ := S1.tr A (.inl z)
    rw [hA] at e
    cases e
  have hhd : ∀ a, G.hd = some a → a ≠ A ∧ G.hc ≠ A := fun a ea => by
    obtain ⟨_, i, l, m, n, cs, e1, e2, _⟩ := S1.hn a ea
    exact ⟨ne_of_none e1 hA, ne_of_none e2 hA⟩
  have hBh : ∀ a, G.hd = some a → B a ∧ B G.hc := fun a ea => ⟨(S1.hn a ea).1.1, (S1.hn a ea).1.2.1⟩
  -- the turn's word, over the heap and what is still to come
  let P : Nat → Hp → Prop := fun i H2 => i ≤ x.1.length ∧ ∃ O2 vs acc, (∀ a o, H1 a = some o → G.hd ≠ some a → H2 a = some o) ∧ (∀ a, O2 a → O1 a ∨ H1 a = none) ∧ W (fun b => B b ∨ b = A) H2 O2 ∧ SR (G.at fun b => B b ∨ b = A) x.2 σ H2 O2 ∧ H2 A = some (.lst vs) ∧
    Shs G.K H2 ((G.at fun b => B b ∨ b = A).F O2) vs acc ∧ ((lcL p c e (wipeA x.2 own) (x.1.drop i) acc).bind fun l => R.ok (D.lst l, x.2)).all fun p => ∀ v H' O', Stp true G.hd O H O' H' → SR (G.at B) p.2 σ H' O' → VR (G.at B) .ow p.2 σ H' O' v p.1 → Q v H'
  refine ⟨fun i m H2 => m = x.1.length - i ∧ P i H2, ⟨x.1.length, by simp, Nat.zero_le _, O1, [], [], fun a o e _ => upd_keep hA a o e, fun a z => .inl z, wa _ _ _ _ _ _ w0 S1 hA, S1.addB hA, upd_same, .nil, by simpa using q⟩, ?_⟩
  rintro i m H2 ⟨rfl, hi, O2, vs, acc, k2, n2, w2, S2, hA2, ac2, q2⟩
  obtain ⟨goes, stops⟩ := wt _ i _ _ _ _ w2 S2
  by_cases hlt : i < x.1.length
  · obtain ⟨go, yl⟩ := goes hlt
    refine .inr ⟨go, P (i + 1), fun H3 h3 => ⟨x.1.length - (i + 1), by omega, rfl, h3⟩, fun v H3 hy => ?_⟩
    obtain ⟨d, ed, s3, S3, r3⟩ := yl v H3 hy
    have hd : x.1.drop i = d :: x.1.drop (i + 1) := by
      obtain ⟨h1, h2⟩ := List.getElem?_eq_some_iff.mp ed
      rw [List.drop_eq_getElem_cons h1, h2]
    rw [hd] at q2
    unfold lcL at q2
    have w3 := wk _ _ _ _ _ _ _ w2 S2 s3
    have SW : SR (G.at fun b => B b ∨ b = A) (wipeA x.2 own) (L2.wipe σ own) H3 O2 := S3.wipe own
    have ac3 := S2.cars0 s3 ac2
    have hA3 : H3 A = some (.lst vs) := s3.pr A _ hA2 (.inl rfl) fun z => (hhd A z).1 rfl
    have k3 : ∀ a o, H1 a = some o → G.hd ≠ some a → H3 a = some o := fun a o e n => s3.pr a o (k2 a o e n) (.inl rfl) n
    cases ea : asg p d (wipeA x.2 own) with
    | none => rw [ea] at q2; exact q2.elim
    | some st1 =>
      rw [ea] at q2
      refine wg (fun b => B b ∨ b = A) _ _ _ _ ⟨_, O2, d, st1, SW, r3, ea, fun σ2 Sσ m2 => ⟨by rw [wipe_same (m2.mono hp), wipe_wipe], wc (fun b => B b ∨ b = A) _ _ _ ⟨st1, O2, Sσ, ?_⟩⟩⟩
      have hM : ∀ (i : Nat) (d : D), G.kd i = true → x.2[i]? = some (some d) → st1[i]? = some (some d) ∧ σ2[i]? = σ[i]? := fun j d' hk e1 => by
        have n1 : j ∉ own := fun z => by rw [ho j z] at hk; cases hk
        have n2 : j ∉ pslots p := fun z => n1 (hp j z)
        exact ⟨by rw [asg_out ea n2, wipeA_get n1]; exact e1, by rw [m2.out j n2, wipe_get, if_neg (fun z => n1 z.1)]⟩
      have gone : ∀ {B' : Addr → Prop} {st' : AS} {σ' : L2.St} {O' : Addr → Prop} {H' : Hp} (a : Addr), SR (G.at B') st' σ' H' O' → (∀ a o, H1 a = some o → G.hd ≠ some a → H' a = some o) → H' a = none → H1 a = none := fun a S' k z => by
        cases y : H1 a with
        | none => rfl
        | some o =>
          by_cases ez : G.hd = some a
          · obtain ⟨_, i, l, m, n, cs, e1, _⟩ := S'.hn a ez
            rw [z] at e1; cases e1
          · rw [k a o y ez] at z; cases z
      have q2 := R.all_and (R.all_bind (R.all_bind q2)) (hc st1)
      refine R.all_mono (fun b ⟨q3, eb⟩ H4 O4 s4 S4 => ?_) q2
      obtain ⟨b1, b2⟩ := b
      have eb : b2 = st1 := eb
      subst eb
      have w4 := wk _ _ _ _ _ _ _ w3 Sσ s4
      have S4' := SR.mix S3 S4 s4 hM
      have ac4 := S3.cars0 s4 ac3
      have hA4 : H4 A = some (.lst vs) := s4.pr A _ hA3 (.inl rfl) fun z => (hhd A z).1 rfl
      have k4 : ∀ a o, H1 a = some o → G.hd ≠ some a → H4 a = some o := fun a o e n => s4.pr a o (k3 a o e n) (.inl rfl) n
      have n4 : ∀ a, O4 a → O1 a ∨ H1 a = none := fun a z => (s4.nw a z).elim (n2 a) fun z => .inr (gone a S3 k3 z)
      cases b1 with
      | false => exact iteF ⟨hlt, O4, vs, acc, k4, n4, w4, S4', hA4, ac4, R.bind_all q3⟩
      | true =>
        refine iteT (we (fun b => B b ∨ b = A) _ _ _ ⟨_, O4, S4, R.all_mono (fun y ⟨q4, ey⟩ u H5 O5 s5 S5 r5 => ?_) (R.all_and (R.all_bind q3) (he _))⟩)
        obtain ⟨y1, y2⟩ := y
        have ey : y2 = b2 := ey
        subst ey
        have w5 := wk _ _ _ _ _ _ _ w4 S4 s5
        have S5' := SR.mix S4' S5 s5 hM
        have ac5 := S4'.cars0 s5 ac4
        have hA5 : H5 A = some (.lst vs) := s5.pr A _ hA4 (.inl rfl) fun z => (hhd A z).1 rfl
        have k5 : ∀ a o, H1 a = some o → G.hd ≠ some a → H5 a = some o := fun a o e n => s5.pr a o (k4 a o e n) (.inl rfl) n
        have n5 : ∀ a, O5 a → O1 a ∨ H1 a = none := fun a z => (s5.nw a z).elim (n4 a) fun z => .inr (gone a S4' k4 z)
        cases f : (isH y1 || !(lenOk acc.length)) with
        | true =>
          simp only [f] at q4
          exact q4.elim
        | false =>
          simp only [f] at q4
          rw [Bool.or_eq_false_iff] at f
          have r5 : Sh G.K H5 ((G.at fun b => B b ∨ b = A).F O5) u y1 := by
            rcases r5 with r5 | ⟨z, _⟩
            · exact r5
            · have f1 := f.1
              have z : y1 = .hnd := z
              rw [z] at f1
              cases f1
          refine ⟨vs, hA5, ?_, hlt, O5, vs ++ [u], acc ++ [y1], fun a o e n => ?_, n5, wu _ A _ H5 O5 w5 (.inr rfl) ⟨_, hA5⟩, SR.setB S5' (.inr rfl) ⟨_, hA5⟩ hhd, upd_same, shs_set (.inl (.inr rfl)) ⟨_, hA5⟩ (ac5.append (.cons r5 .nil)), R.bind_all q4⟩
          · rw [ac5.length]
            exact lenOk_le (by simpa using f.2)
          · rw [upd_ne (ne_of_none e hA)]
            exact k5 a o e n
  · have e : x.1.drop i = [] := List.drop_eq_nil_iff.mpr (by omega)
    rw [e] at q2
    have gone : ∀ a, H1 a = none → O a ∨ H a = none := fun a z => by
      cases y : H a with
      | none => exact .inr rfl
      | some o =>
        by_cases ez : G.hd = some a
        · obtain ⟨_, i, l, m, n, cs, e1, _⟩ := S1.hn a ez
          rw [z] at e1; cases e1
        · rw [s1.pr a o y (.inl rfl) ez] at z; cases z
    refine .inl ⟨stops (by omega), q2 _ H2 (fun b => O2 b ∨ b = A) ⟨fun a o e _ n => k2 a o (s1.pr a o e (.inl rfl) n) n, fun a z => ?_⟩ (S2.unB hBA hBh) ⟨A, rfl, ⟨.inr rfl, acc, vs, rfl, hA2, ac2.mono fun a z => ?_⟩, fun j d' hk e1 e2 => ?_⟩⟩
    · rcases z with z | z
      · exact (n2 a z).elim (fun y => s1.nw a y) (gone a)
      · exact gone a (z ▸ hA)
    · rcases z with z | z | z
      · exact .inl (.inl z)
      · exact .inr z
      · exact .inl (.inr z)
    · obtain ⟨v, e3, q⟩ := S2.val j d' e1
      rw [show (G.at fun b => B b ∨ b = A).kd j = true from hk] at q
      obtain ⟨a, rfl, ho, _⟩ := q
      rw [e2] at e3
      cases e3
      exact S2.bo A (.inr rfl) ho
end
end EV
/-! calls and statements -/
namespace EV
open PySem PySem.Spec PyProof.Rows L2 RZ
/-! calls of defs -/
def RetR (K : PySem.W.Frag) (hd : Option Addr) (B : Addr → Prop) (H H' : Hp) (ro : Bool) (v : V) (r : D) : Prop := match ro with
  | false => ShR K hd H' B v r
  | true => ∃ a, v = .ref a ∧ H a = none ∧ ∃ ds vs, r = .lst ds ∧ H' a = some (.lst vs) ∧ Shs K H' (fun b => B b ∨ b = a) vs ds
def SpE (K : PySem.W.Frag) (n : Nat) (ro : Bool) (φ : List D → R D) : Sp := fun vs H Q _ => vs.length = n ∧ ∃ hd hc B ds, (∀ a, B a → ∃ xs, H a = some (.lst xs)) ∧ HandI hd hc B H ∧ ShRs K hd H B vs ds ∧ (φ ds).all fun r => ∀ v H',
  (∀ a o, H a = some o → hd ≠ some a → H' a = some o) → HandI hd hc B H' → RetR K hd B H H' ro v r → Q v H'
def mCall (φ : List D → R D) (l : ML) : ME := fun st => (l st).bind fun p => (φ p.1).bind fun r => .ok (r, p.2)
def kOf (ro : Bool) : Kd := match ro with | true => .ow | false => .sh
section
variable {X : Cx} {G : Cn} {pu : Bool}
theorem HandI.up {hd : Option Addr} {hc : Addr} {B B' : Addr → Prop} {H : Hp} (h : HandI hd hc B H) (hb : ∀ a, B a → B' a) : HandI hd hc B' H := fun a e => by
  obtain ⟨q1, q2⟩ := h a e
  exact ⟨⟨hb a q1.1, hb hc q1.2.1, q1.2.2⟩, q2⟩
theorem HandI.dn {hd : Option Addr} {hc : Addr} {B B' : Addr → Prop} {H H' : Hp} (h : HandI hd hc B' H') (h0 : HandI hd hc B H) : HandI hd hc B H' := fun a e => ⟨(h0 a e).1, (h a e).2⟩
theorem w_call {n : Nat} {ro : Bool} {φ : List D → R D} {l : ML} (σ : L2.St) (H : Hp) (Q : VK) (hn : ∀ st, (l st).pall fun p => p.1.length = n) (q : T G (kOf ro) pu (mCall φ l) σ H Q) : tCall (SpE G.K n ro φ) [] E0 (TL G pu l) σ H Q := by
  obtain ⟨st, O, S, q⟩ := q
  refine ⟨st, O, S, R.all_mono (fun p ⟨q, len⟩ vs H1 O1 s1 S1 r1 => ?_) (R.all_and (R.all_bind q) (hn st))⟩
  show SpE G.K n ro φ (vs ++ []) H1 Q E0
  rw [List.append_nil]
  refine ⟨by rw [r1.length, len], G.hd, G.hc, G.F O1, p.1, S1.tr, S1.hn.up fun a z => .inl z, r1, R.all_mono (fun r q v H2 kp hI rr => ?_) (R.all_bind q)⟩
  have sp0 : Stp true G.hd O1 H1 O1 H2 := ⟨fun a o e _ n => kp a o e n, fun a z => .inl z⟩
  have tr0 : ∀ a, O1 a → ∃ xs, H2 a = some (.lst xs) := fun a z => by
    obtain ⟨xs, e⟩ := S1.tr a (.inr z)
    exact ⟨xs, kp a _ e fun y => S1.hO a y z⟩
  cases ro with
  | false =>
    have S2 : SR G p.2 σ H2 O1 := S1.goes sp0 tr0 S1.bo (fun _ z => z) (hI.dn S1.hn)
    refine q v H2 O1 ?_ S2 rr
    cases pu with
    | true => exact s1.trans sp0 S2.hO
    | false => exact s1.trans sp0.weak S2.hO
  | true =>
    obtain ⟨a, rfl, ha, ds, ws, rfl, e2, e3⟩ := rr
    have sp1 : Stp true G.hd O1 H1 (fun b => O1 b ∨ b = a) H2 := ⟨fun a o e _ n => kp a o e n, fun b z => z.imp id fun (e : b = a) => by rw [e]; exact ha⟩
    have bo : ∀ b, G.B b → ¬ (O1 b ∨ b = a) := fun b hb z => z.elim (S1.bo b hb) fun e => by
      obtain ⟨xs, y⟩ := S1.tr b (.inl hb)
      rw [e, ha] at y
      cases y
    have S2 : SR G p.2 σ H2 (fun b => O1 b ∨ b = a) := S1.goes sp1 (fun b z => z.elim (tr0 b) fun (e : b = a) => ⟨ws, by rw [e]; exact e2⟩) bo (fun _ z => .inl z) (hI.dn S1.hn)
    refine q _ H2 (fun b => O1 b ∨ b = a) ?_ S2 ⟨a, rfl, ⟨.inr rfl, ds, ws, rfl, e2, e3.mono fun b z => ?_⟩, S1.fresh ha⟩
    · cases pu with
      | true => exact s1.trans sp1 S2.hO
      | false => exact s1.trans sp1.weak S2.hO
    · rcases z with z | z | z
      · exact .inl (.inl z)
      · exact .inl (.inr z)
      · exact .inr z
end
/-! statements -/
inductive Fl where
  | nx (st : AS) | rt (d : D) | bk (st : AS) | ct (st : AS)
abbrev MS := AS → R Fl
def FlP (G : Cn) (ro : Bool) (O : Addr → Prop) (H : Hp) (Dn : Ends) : Fl → Prop
  | .nx st' => ∀ σ' H' O', Stp false G.hd O H O' H' → SR G st' σ' H' O' → Dn.nx σ' H'
  | .bk st' => ∀ σ' H' O', Stp false G.hd O H O' H' → SR G st' σ' H' O' → Dn.bk σ' H'
  | .ct st' => ∀ σ' H' O', Stp false G.hd O H O' H' → SR G st' σ' H' O' → Dn.ct σ' H'
  | .rt d => ∀ v H' O' st' σ', Stp false G.hd O H O' H' → SR G st' σ' H' O' → VR G (kOf ro) st' σ' H' O' v d → Dn.rt v H'
def TSm (G : Cn) (ro : Bool) (m : MS) : L2.TS := fun Dn σ H => ∃ st O, SR G st σ H O ∧ (m st).all (FlP G ro O H Dn)
/-- the wishes behind a step -/
theorem FlP.after {G : Cn} {ro : Bool} {O O1 : Addr → Prop} {H H1 : Hp} {Dn : Ends} {f : Fl} {st1 : AS} {σ1 : L2.St} (h : FlP G ro O H Dn f) (s : Stp false G.hd O H O1 H1) (S1 : SR G st1 σ1 H1 O1) : FlP G ro O1 H1 Dn f := by
  cases f with
  | nx st' => exact fun σ' H' O' sp S => h σ' H' O' (s.trans sp S.hO) S
  | bk st' => exact fun σ' H' O' sp S => h σ' H' O' (s.trans sp S.hO) S
  | ct st' => exact fun σ' H' O' sp S => h σ' H' O' (s.trans sp S.hO) S
  | rt d => exact fun v H' O' st' σ' sp S r => h v H' O' st' σ' (s.trans sp S.hO) S r
def sSkip : MS := fun st => .ok (.nx st)
def sSq (a b : MS) : MS := fun st => (a st).bind fun f => match f with | .nx st' => b st' | f => .ok f
def sBrk : MS := fun st => .ok (.bk st)
def sCnt : MS := fun st => .ok (.ct st)
def sRet (m : ME) : MS := fun st => (m st).bind fun p => .ok (.rt p.1)
def sIfS (t : MT) (a b : MS) : MS := fun st => (t st).bind fun p => match p.1 with | true => a p.2 | false => b p.2
def sAs (p : Pat) (m : ME) : MS := fun st => (m st).bind fun x => match asg p x.1 x.2 with | some st' => .ok (.nx st') | none => .bad
def sAo (i : Nat) (m : ME) : MS := fun st => (m st).bind fun x => .ok (.nx (x.2.set i (some x.1)))
def sNev : MS := fun _ => .bad
section
variable {X : Cx} {G : Cn} {ro : Bool} {pu : Bool}
theorem s_nil : PSs X [] (TSm G ro sSkip) := PSs.weak pss_nil fun Dn σ H q => by
  obtain ⟨st, O, S, q⟩ := q
  exact q σ H O Stp.refl S
theorem s_pass {pos : Pos} : PS X (.Pass pos) (TSm G ro sSkip) := PS.weak ps_pass fun Dn σ H q => by
  obtain ⟨st, O, S, q⟩ := q
  exact q σ H O Stp.refl S
theorem w_sq {a b : MS} (Dn : Ends) (σ : L2.St) (H : Hp) (q : TSm G ro (sSq a b) Dn σ H) : tSeq (TSm G ro a) (TSm G ro b) Dn σ H := by
  obtain ⟨st, O, S, q⟩ := q
  refine ⟨st, O, S, R.all_mono (fun f q => ?_) (R.all_bind q)⟩
  cases f with
  | nx st' => exact fun σ' H' O' sp S' => ⟨st', O', S', R.all_mono (fun f q => q.after sp S') q⟩
  | bk st' => exact q
  | ct st' => exact q
  | rt d => exact q
theorem s_cons {s : Stmt} {r : List Stmt} {a b : MS} (h : PS X s (TSm G ro a)) (h2 : PSs X r (TSm G ro b)) : PSs X (s :: r) (TSm G ro (sSq a b)) := PSs.weak (pss_cons h h2) w_sq
theorem s_brk {pos : Pos} : PS X (.Break pos) (TSm G ro sBrk) := PS.weak ps_break fun Dn σ H q => by
  obtain ⟨st, O, S, q⟩ := q
  exact q σ H O Stp.refl S
theorem s_cnt {pos : Pos} : PS X (.Continue pos) (TSm G ro sCnt) := PS.weak ps_continue fun Dn σ H q => by
  obtain ⟨st, O, S, q⟩ := q
  exact q σ H O Stp.refl S
theorem s_ret {e : Expr} {m : ME} {pos : Pos} (h : PE X e (T G (kOf ro) pu m)) : PS X (.Return (some e) pos) (TSm G ro (sRet m)) := PS.weak (ps_ret h) fun Dn σ H q => by
  obtain ⟨st, O, S, q⟩ := q
  refine ⟨st, O, S, R.all_mono (fun p q v H1 O1 s1 S1 r1 => ?_) (R.all_bind q)⟩
  exact q v H1 O1 p.2 σ s1.weak S1 r1
theorem s_retN {pos : Pos} : PS X (.Return none pos) (TSm G false (sRet (mK .non))) := PS.weak ps_retN fun Dn σ H q => by
  obtain ⟨st, O, S, q⟩ := q
  exact q .non H O st σ Stp.refl S (.inl .non)
theorem s_if {c : Expr} {a b : List Stmt} {t : MT} {x y : MS} {pos : Pos} (hc : PT X c (TB G true t)) (ha : PSs X a (TSm G ro x)) (hb : PSs X b (TSm G ro y)) : PS X (.If c a b pos) (TSm G ro (sIfS t x y)) := PS.weak (ps_if hc ha hb) fun Dn σ H q => by
  obtain ⟨st, O, S, q⟩ := q
  refine ⟨st, O, S, R.all_mono (fun p q H1 O1 s1 S1 => ?_) (R.all_bind q)⟩
  cases e : p.1 with
  | true =>
    rw [e] at q
    exact iteT ⟨p.2, O1, S1, R.all_mono (fun f q => q.after s1.weak S1) q⟩
  | false =>
    rw [e] at q
    exact iteF ⟨p.2, O1, S1, R.all_mono (fun f q => q.after s1.weak S1) q⟩
theorem w_as {p : Pat} {m : ME} (Dn : Ends) (σ : L2.St) (H : Hp) (q : TSm G ro (sAs p m) Dn σ H) : tAsg (T G .sh pu m) (TPat G p) Dn σ H := by
  obtain ⟨st, O, S, q⟩ := q
  refine ⟨st, O, S, R.all_mono (fun x q v H1 O1 s1 S1 r1 => ?_) (R.all_bind q)⟩
  cases e : asg p x.1 x.2 with
  | none => rw [e] at q; exact q.elim
  | some st' =>
    rw [e] at q
    exact ⟨x.2, O1, x.1, st', S1, r1, e, fun σ' S' _ => q σ' H1 O1 s1.weak S'⟩
theorem w_ao {i : Nat} {m : ME} (hk : G.kd i = true) (Dn : Ends) (σ : L2.St) (H : Hp) (q : TSm G ro (sAo i m) Dn σ H) : tAsg (T G .ow pu m) (gName i) Dn σ H := by
  obtain ⟨st, O, S, q⟩ := q
  refine ⟨st, O, S, R.all_mono (fun x q v H1 O1 s1 S1 r1 => ?_) (R.all_bind q)⟩
  obtain ⟨a, rfl, ow, fr⟩ := r1
  exact q _ H1 O1 s1.weak (S1.putO hk ow fun j d' _ hj e => fr j d' hj e)
/-! loops -/
def forL (p : Pat) (b : MS) : List D → AS → R Fl
  | [], st => .ok (.nx st)
  | d :: r, st => match asg p d st with
    | some st1 => (b st1).bind fun f => match f with
      | .nx st2 => forL p b r st2
      | .ct st2 => forL p b r st2
      | .bk st2 => .ok (.nx st2)
      | .rt d => .ok (.rt d)
    | none => .bad
def sFor (s : MI) (p : Pat) (b : MS) : MS := fun st => (s st).bind fun x => forL p b x.1 x.2
theorem w_for {s : MI} {p : Pat} {b : MS} (Dn : Ends) (σ : L2.St) (H : Hp) (q : TSm G ro (sFor s p b) Dn σ H) : tFor (TSrc G pu false s) (TPat G p) (TSm G ro b) Dn σ H := by
  obtain ⟨st, O, S, q⟩ := q
  refine ⟨st, O, S, R.all_mono (fun x q J H1 O1 s1 S1 it => ?_) (R.all_bind q)⟩
  obtain ⟨W, w0, wk, wt, _⟩ := it.ex
  let P : Nat → L2.St → Hp → Prop := fun i σ2 H2 => i ≤ x.1.length ∧ ∃ st2 O2, Stp false G.hd O H O2 H2 ∧ W G.B H2 O2 ∧ SR G st2 σ2 H2 O2 ∧ (forL p b (x.1.drop i) st2).all (FlP G ro O H Dn)
  refine ⟨fun i m σ2 H2 => m = x.1.length - i ∧ P i σ2 H2, ⟨x.1.length, by simp, Nat.zero_le _, x.2, O1, s1.weak, w0, S1, q⟩, ?_⟩
  rintro i m σ2 H2 ⟨rfl, hi, st2, O2, s2, w2, S2, q2⟩
  obtain ⟨goes, stops⟩ := wt G.B i _ _ _ _ w2 S2
  by_cases hlt : i < x.1.length
  · obtain ⟨go, yl⟩ := goes hlt
    refine .inr ⟨go, P (i + 1), fun σ3 H3 h3 => ⟨x.1.length - (i + 1), by omega, rfl, h3⟩, fun v H3 hy => ?_⟩
    obtain ⟨d, ed, s3, S3, r3⟩ := yl v H3 hy
    have hd : x.1.drop i = d :: x.1.drop (i + 1) := by
      obtain ⟨h1, h2⟩ := List.getElem?_eq_some_iff.mp ed
      rw [List.drop_eq_getElem_cons h1, h2]
    rw [hd] at q2
    unfold forL at q2
    have w3 := wk _ _ _ _ _ _ _ w2 S2 s3.weak
    cases ea : asg p d st2 with
    | none => rw [ea] at q2; exact q2.elim
    | some st3 =>
      rw [ea] at q2
      refine ⟨st2, O2, d, st3, S3, r3, ea, fun σ3 S3' _ => ⟨st3, O2, S3', R.all_mono (fun f q => ?_) (R.all_bind q2)⟩⟩
      have s23 : Stp false G.hd O H O2 H3 := s2.trans s3.weak S3.hO
      have again : ∀ st4 : AS, (forL p b (x.1.drop (i + 1)) st4).all (FlP G ro O H Dn) → ∀ σ' H' O', Stp false G.hd O2 H3 O' H' → SR G st4 σ' H' O' → P (i + 1) σ' H' := fun st4 q σ' H' O' sp S' => ⟨hlt, st4, O', s23.trans sp S'.hO, wk _ _ _ _ _ _ _ w3 S3 sp, S', q⟩
      cases f with
      | nx st4 => exact again st4 q
      | ct st4 => exact again st4 q
      | bk st4 => exact fun σ' H' O' sp S' => q σ' H' O' (s23.trans sp S'.hO) S'
      | rt r => exact fun v H' O' st' σ' sp S' rr => q v H' O' st' σ' (s23.trans sp S'.hO) S' rr
  · have e : x.1.drop i = [] := List.drop_eq_nil_iff.mpr (by omega)
    rw [e] at q2
    exact .inl ⟨stops (by omega), q2 σ2 H2 O2 s2 S2⟩
def whL (t : MT) (b : MS) : Nat → AS → R Fl
  | 0, _ => .bad
  | n + 1, st => (t st).bind fun p => match p.1 with
    | true => (b p.2).bind fun f => match f with
      | .nx st2 => whL t b n st2
      | .ct st2 => whL t b n st2
      | .bk st2 => .ok (.nx st2)
      | .rt d => .ok (.rt d)
    | false => .ok (.nx p.2)
def sWh (n : Nat) (t : MT) (b : MS) : MS := whL t b n
theorem w_wh {n : Nat} {t : MT} {b : MS} (Dn : Ends) (σ : L2.St) (H : Hp) (q : TSm G ro (sWh n t b) Dn σ H) : tWhile (TB G true t) (TSm G ro b) Dn σ H := by
  obtain ⟨st, O, S, q⟩ := q
  refine ⟨fun m σ2 H2 => ∃ st2 O2, Stp false G.hd O H O2 H2 ∧ SR G st2 σ2 H2 O2 ∧ (whL t b m st2).all (FlP G ro O H Dn), ⟨n, st, O, Stp.refl, S, q⟩, ?_⟩
  rintro m σ2 H2 ⟨st2, O2, s2, S2, q2⟩
  cases m with
  | zero => exact q2.elim
  | succ m =>
    refine ⟨st2, O2, S2, R.all_mono (fun p q H3 O3 s3 S3 => ?_) (R.all_bind q2)⟩
    have s23 : Stp false G.hd O H O3 H3 := s2.trans s3.weak S3.hO
    cases e : p.1 with
    | false =>
      rw [e] at q
      exact iteF (q σ2 H3 O3 s23 S3)
    | true =>
      rw [e] at q
      refine iteT ⟨fun σ' H' => ∃ st2 O2, Stp false G.hd O H O2 H' ∧ SR G st2 σ' H' O2 ∧ (whL t b m st2).all (FlP G ro O H Dn), fun σ' H' h => ⟨m, Nat.lt_succ_self m, h⟩, p.2, O3, S3, R.all_mono (fun f q => ?_) (R.all_bind q)⟩
      cases f with
      | nx st4 => exact fun σ' H' O' sp S' => ⟨st4, O', s23.trans sp S'.hO, S', q⟩
      | ct st4 => exact fun σ' H' O' sp S' => ⟨st4, O', s23.trans sp S'.hO, S', q⟩
      | bk st4 => exact fun σ' H' O' sp S' => q σ' H' O' (s23.trans sp S'.hO) S'
      | rt r => exact fun v H' O' st' σ' sp S' rr => q v H' O' st' σ' (s23.trans sp S'.hO) S' rr
/-! lists that are owned, changed -/
theorem SR.mut {st : AS} {σ : L2.St} {H : Hp} {O : Addr → Prop} {i : Nat} {a : Addr} {d : D} {vs' : List V} {ds' : List D} (S : SR G st σ H O) (hk : G.kd i = true) (e : st[i]? = some (some d)) (ea : σ[i]? = some (some (.ref a))) (ho : O a) (hA : ∃ xs, H a = some (.lst xs)) (h : Shs G.K H (G.F O) vs' ds') :
    SR G (st.set i (some (.lst ds'))) σ (upd H a (.lst vs')) O ∧ Stp false G.hd O H O (upd H a (.lst vs')) := by
  have hh : ∀ x, G.hd = some x → x ≠ a ∧ G.hc ≠ a := fun x ex => ⟨fun z => S.bo a (z ▸ (S.hn x ex).1.1) ho, fun z => S.bo a (z ▸ (S.hn x ex).1.2.1) ho⟩
  refine ⟨⟨by simpa using S.len, fun j d' e' => ?_, fun j k d1 d2 b ne hj hk' e1 e2 e3 e4 => ?_, fun b z => ?_, S.bo, fun x ex => ?_⟩, fun b o eb nb _ => ?_, fun b z => .inl z⟩
  · rcases set_some e' with ⟨rfl, e1, hl⟩ | ⟨ne, e1⟩
    · cases e1
      refine ⟨_, ea, ?_⟩
      rw [hk]
      exact ⟨a, rfl, ho, ds', vs', rfl, upd_same, shs_set (.inr ho) hA h⟩
    · obtain ⟨v, e2, q⟩ := S.val j d' e1
      refine ⟨v, e2, ?_⟩
      cases hj : G.kd j with
      | true =>
        rw [hj] at q
        obtain ⟨b, rfl, hb, ds, vs, q1, q2, q3⟩ := q
        refine ⟨b, rfl, hb, ds, vs, q1, ?_, shs_set (.inr ho) hA q3⟩
        rw [upd_ne (fun (z : b = a) => S.ap i j d d' a ne hk hj e e1 ea (by rw [← z]; exact e2))]
        exact q2
      | false =>
        rw [hj] at q
        exact q.imp (sh_set (.inr ho) hA) id
  · have back : ∀ {j : Nat} {d1 : D}, (st.set i (some (.lst ds')))[j]? = some (some d1) → ∃ d0, st[j]? = some (some d0) := fun {j d1} q => by
      rcases set_some q with ⟨rfl, _, _⟩ | ⟨_, q⟩
      · exact ⟨d, e⟩
      · exact ⟨_, q⟩
    obtain ⟨x1, f1⟩ := back e1
    obtain ⟨x2, f2⟩ := back e2
    exact S.ap j k x1 x2 b ne hj hk' f1 f2 e3 e4
  · by_cases eb : b = a
    · subst eb; exact ⟨vs', upd_same⟩
    · obtain ⟨xs, q⟩ := S.tr b z
      exact ⟨xs, by rw [upd_ne eb]; exact q⟩
  · obtain ⟨q1, j, l, m, n, cs, q2, q3, q4⟩ := S.hn x ex
    exact ⟨q1, j, l, m, n, cs, by rw [upd_ne (hh x ex).1]; exact q2, by rw [upd_ne (hh x ex).2]; exact q3, q4⟩
  · rcases nb with nb | nb
    · cases nb
    · rw [upd_ne (fun (z : b = a) => nb (z ▸ ho))]
      exact eb
/-- what an owned slot holds -/
theorem SR.slot {st : AS} {σ : L2.St} {H : Hp} {O : Addr → Prop} {i : Nat} {d : D} (S : SR G st σ H O) (hk : G.kd i = true) (e : getS st i = some d) : ∃ a ds vs, d = .lst ds ∧ σ[i]? = some (some (.ref a)) ∧ O a ∧ H a = some (.lst vs) ∧ Shs G.K H (G.F O) vs ds := by
  obtain ⟨v, e1, q⟩ := S.val i d (getS_some e)
  rw [hk] at q
  obtain ⟨a, rfl, ho, ds, vs, e2, e3, e4⟩ := q
  exact ⟨a, ds, vs, e2, e1, ho, e3, e4⟩
def sApp (i : Nat) (m : ME) : MS := fun st => match getS st i with
  | some _ => (m st).bind fun p => match getS p.2 i with
    | some (.lst xs) => match isH p.1 || !(lenOk xs.length) with | true => .bad | false => .ok (.nx (p.2.set i (some (.lst (xs ++ [p.1])))))
    | _ => .bad
  | none => .bad
def sExt (i : Nat) (m : ME) : MS := fun st => match getS st i with
  | some _ => (m st).bind fun p => match getS p.2 i with
    | some (.lst xs) => match p.1 with
      | .lst ys => match lenOk (xs.length + ys.length) with | true => .ok (.nx (p.2.set i (some (.lst (xs ++ ys))))) | false => .bad
      | _ => .bad
    | _ => .bad
  | none => .bad
theorem w_app {i : Nat} {m : ME} (hk : G.kd i = true) (Dn : Ends) (σ : L2.St) (H : Hp) (q : TSm G ro (sApp i m) Dn σ H) : tDrop (tBM G.K "list" rAppend (tVar i) (L2.tCons (T G .sh pu m) L2.tNil)) Dn σ H := by
  obtain ⟨st, O, S, q⟩ := q
  unfold sApp at q
  cases e : getS st i with
  | none => rw [e] at q; exact q.elim
  | some d0 =>
    rw [e] at q
    obtain ⟨a, ds0, vs0, rfl, ea, ho, hA, h0⟩ := S.slot hk e
    refine ⟨_, ea, .inl ⟨rfl, vs0, .inl (.inl hA)⟩, st, O, S, R.all_mono (fun p q v H1 O1 s1 S1 r1 => ?_) (R.all_bind q)⟩
    cases e1 : getS p.2 i with
    | none => rw [e1] at q; exact q.elim
    | some d1 =>
      rw [e1] at q
      obtain ⟨b, ds, vs, rfl, eb, ho1, hB, h1⟩ := S1.slot hk e1
      rw [ea] at eb
      cases eb
      cases f : (isH p.1 || !(lenOk ds.length)) with
      | true => simp only [f] at q; exact q.elim
      | false =>
        simp only [f] at q
        rw [Bool.or_eq_false_iff] at f
        have r1 : Sh G.K H1 (G.F O1) v p.1 := by
          rcases r1 with r1 | ⟨z, _⟩
          · exact r1
          · rw [z] at f; cases f.1
        obtain ⟨S2, s2⟩ := S1.mut hk (getS_some e1) ea ho1 ⟨vs, hB⟩ (h1.append (.cons r1 .nil))
        exact ⟨a, vs, v, rfl, rfl, hB, by rw [h1.length]; exact lenOk_le (by simpa using f.2), q σ _ O1 (s1.weak.trans s2 S2.hO) S2⟩
theorem w_ext {i : Nat} {m : ME} (hk : G.kd i = true) (Dn : Ends) (σ : L2.St) (H : Hp) (q : TSm G ro (sExt i m) Dn σ H) : tDrop (tBM G.K "list" rExtend (tVar i) (L2.tCons (T G .ow pu m) L2.tNil)) Dn σ H := by
  obtain ⟨st, O, S, q⟩ := q
  unfold sExt at q
  cases e : getS st i with
  | none => rw [e] at q; exact q.elim
  | some d0 =>
    rw [e] at q
    obtain ⟨a, ds0, vs0, rfl, ea, ho, hA, h0⟩ := S.slot hk e
    refine ⟨_, ea, .inl ⟨rfl, vs0, .inl (.inl hA)⟩, st, O, S, R.all_mono (fun p q v H1 O1 s1 S1 r1 => ?_) (R.all_bind q)⟩
    obtain ⟨c, rfl, ⟨hc, es, ws, e2, hC, h2⟩, fr⟩ := r1
    cases e1 : getS p.2 i with
    | none => rw [e1] at q; exact q.elim
    | some d1 =>
      rw [e1] at q
      obtain ⟨b, ds, vs, rfl, eb, ho1, hB, h1⟩ := S1.slot hk e1
      rw [ea] at eb
      cases eb
      rw [e2] at q
      have q : (match lenOk (ds.length + es.length) with | true => R.ok (Fl.nx (p.2.set i (some (.lst (ds ++ es))))) | false => R.bad).all (FlP G ro O H Dn) := q
      cases f : lenOk (ds.length + es.length) with
      | false => rw [f] at q; exact q.elim
      | true =>
        rw [f] at q
        obtain ⟨S2, s2⟩ := S1.mut hk (getS_some e1) ea ho1 ⟨vs, hB⟩ (h1.append h2)
        exact ⟨a, c, vs, ws, rfl, rfl, hB, hC, by rw [h1.length, h2.length]; exact Nat.le_of_lt (lenOk_le f), q σ _ O1 (s1.weak.trans s2 S2.hO) S2⟩
/-- w.pop(): the last item -/
def mPop (i : Nat) : ME := fun st => match getS st i with
  | some (.lst xs) => match xs[xs.length - 1]? with | some d => .ok (d, st.set i (some (.lst xs.dropLast))) | none => .bad
  | _ => .bad
theorem Shs.dropLast {K : PySem.W.Frag} {H : Hp} {F : Addr → Prop} : ∀ {vs : List V} {ds : List D}, Shs K H F vs ds → Shs K H F vs.dropLast ds.dropLast
  | _, _, .nil => .nil
  | _, _, .cons _ .nil => .nil
  | _, _, .cons h (.cons h2 hs) => .cons h (Shs.dropLast (.cons h2 hs))
theorem w_pop {i : Nat} (hk : G.kd i = true) (σ : L2.St) (H : Hp) (Q : VK) (q : T G .sh false (mPop i) σ H Q) : tBM0 G.K "list" rPop (tVar i) σ H Q := by
  obtain ⟨st, O, S, q⟩ := q
  unfold mPop at q
  cases e : getS st i with
  | none => rw [e] at q; exact q.elim
  | some d0 =>
    rw [e] at q
    obtain ⟨a, ds, vs, rfl, ea, ho, hA, h0⟩ := S.slot hk e
    refine ⟨_, ea, .inl ⟨rfl, vs, .inl (.inl hA)⟩, ?_⟩
    have q : (match ds[ds.length - 1]? with | some d => R.ok (d, st.set i (some (.lst ds.dropLast))) | none => R.bad).all _ := q
    cases e1 : ds[ds.length - 1]? with
    | none => rw [e1] at q; exact q.elim
    | some d =>
      rw [e1] at q
      obtain ⟨v, e2, r⟩ := h0.get e1
      obtain ⟨S2, s2⟩ := S.mut hk (getS_some e) ea ho ⟨vs, hA⟩ h0.dropLast
      exact ⟨a, vs, v, rfl, rfl, hA, by rw [h0.length]; exact e2, q v _ O s2 S2 (.inl (sh_set (.inr ho) ⟨vs, hA⟩ r))⟩
/-- w.pop(k) -/
def mPopAt (i : Nat) (m : ME) : ME := fun st => match getS st i with
  | some _ => (m st).bind fun p => match getS p.2 i with
    | some (.lst xs) => match p.1 with
      | .int (.ofNat k) => match lenOk k with | true => (match xs[k]? with | some d => .ok (d, p.2.set i (some (.lst (xs.eraseIdx k)))) | none => .bad) | false => .bad
      | _ => .bad
    | _ => .bad
  | none => .bad
theorem Shs.erase {K : PySem.W.Frag} {H : Hp} {F : Addr → Prop} : ∀ {vs : List V} {ds : List D} (k : Nat), Shs K H F vs ds → Shs K H F (vs.eraseIdx k) (ds.eraseIdx k)
  | _, _, _, .nil => .nil
  | _, _, 0, .cons _ hs => hs
  | _, _, k + 1, .cons h hs => .cons h (Shs.erase k hs)
theorem w_popAt {i : Nat} {m : ME} (hk : G.kd i = true) (σ : L2.St) (H : Hp) (Q : VK) (q : T G .sh false (mPopAt i m) σ H Q) : tBM G.K "list" rPopAt (tVar i) (L2.tCons (T G .sh pu m) L2.tNil) σ H Q := by
  obtain ⟨st, O, S, q⟩ := q
  unfold mPopAt at q
  cases e : getS st i with
  | none => rw [e] at q; exact q.elim
  | some d0 =>
    rw [e] at q
    obtain ⟨a, ds0, vs0, rfl, ea, ho, hA, h0⟩ := S.slot hk e
    refine ⟨_, ea, .inl ⟨rfl, vs0, .inl (.inl hA)⟩, st, O, S, R.all_mono (fun p q v H1 O1 s1 S1 r1 => ?_) (R.all_bind q)⟩
    cases e1 : getS p.2 i with
    | none => rw [e1] at q; exact q.elim
    | some d1 =>
      rw [e1] at q
      obtain ⟨b, ds, vs, rfl, eb, ho1, hB, h1⟩ := S1.slot hk e1
      rw [ea] at eb
      cases eb
      obtain ⟨p1, p2⟩ := p
      cases p1 with
      | int z =>
        cases z with
        | ofNat k =>
          have q : (match lenOk k with | true => (match ds[k]? with | some d => R.ok (d, p2.set i (some (.lst (ds.eraseIdx k)))) | none => R.bad) | false => R.bad).all _ := q
          cases fk : lenOk k with
          | false => rw [fk] at q; exact q.elim
          | true =>
            simp only [fk] at q
            cases e3 : ds[k]? with
            | none => rw [e3] at q; exact q.elim
            | some d =>
              rw [e3] at q
              obtain ⟨w, e4, r⟩ := h1.get e3
              obtain ⟨S2, s2⟩ := S1.mut hk (getS_some e1) ea ho1 ⟨vs, hB⟩ (h1.erase k)
              have ev : v = .int k := VR.int (st := st) (σ := σ) (.inl r1)
              subst ev
              have hlt : k < vs.length := (List.getElem?_eq_some_iff.mp e4).1
              have hz := lenOk_le fk
              rw [sizeLine_eq] at hz
              refine ⟨a, vs, (k : Int), k, w, rfl, rfl, hB, by omega, by omega, ?_, e4, q w _ O1 (s1.weak.trans s2 S2.hO) S2 (.inl (sh_set (.inr ho1) ⟨vs, hB⟩ r))⟩
              exact (ixN_seq (i := (k : Int)) (j := k) (by unfold ixN; rw [if_pos (by omega), if_pos (by omega)]; simp)).1
        | negSucc k => exact q.elim
      | _ => exact q.elim
end
end EV
namespace EV
open PySem PySem.Spec PyProof.Rows L2 RZ
section
variable {prog : Program} {w : World} {A : Around} {E : Value → Shared → Prop} {s : Shared}
theorem rev_places (n : Nat) : Builtin.Slice.sliceAdjust none none (-1) (n : Int) = ((n : Int) - 1, -1) := by
  unfold Builtin.Slice.sliceAdjust
  simp
theorem rev_count (n : Nat) : Builtin.Slice.slicePlaces ((n : Int) - 1) (-1) (-1) = n := by
  unfold Builtin.Slice.slicePlaces
  rw [if_neg (by decide)]
  split
  · have : ((n : Int) - 1 - -1 - 1) / (- -1) + 1 = n := by
      rw [show (- -1 : Int) = 1 by decide, Int.ediv_one]
      omega
    rw [this]
    omega
  · omega
theorem rev_pick (xs : Array Value) : ((List.range xs.size).filterMap fun (k : Nat) => xs[((xs.size : Int) - 1 + (k : Int) * -1).toNat]?).toArray = xs.toList.reverse.toArray := by
  congr 1
  have e : ∀ k ∈ List.range xs.size, (fun (k : Nat) => xs[((xs.size : Int) - 1 + (k : Int) * -1).toNat]?) k = some (xs.toList.reverse.getD k .none) := fun k hk => by
    have hk := List.mem_range.mp hk
    have e1 : ((xs.size : Int) - 1 + (k : Int) * -1).toNat = xs.size - 1 - k := by omega
    show xs[((xs.size : Int) - 1 + (k : Int) * -1).toNat]? = _
    rw [e1, List.getD_eq_getElem?_getD, List.getElem?_reverse (by simpa using hk), ← Array.getElem?_toList, Array.length_toList, List.getElem?_eq_getElem (by simp; omega)]
    rfl
  have h2 : ∀ (l : List Nat) (f g : Nat → Option Value), (∀ k ∈ l, f k = g k) → l.filterMap f = l.filterMap g := fun l f g h => by
    induction l with
    | nil => rfl
    | cons a l ih => rw [List.filterMap_cons, List.filterMap_cons, h a (by simp), ih fun k hk => h k (by simp [hk])]
  rw [h2 _ _ (fun k => some (xs.toList.reverse.getD k .none)) e, List.filterMap_eq_map']
  refine List.ext_getElem? fun i => ?_
  by_cases hi : i < xs.size
  · rw [List.getElem?_map, List.getElem?_range hi]
    have hl : i < xs.toList.reverse.length := by simpa using hi
    show some (xs.toList.reverse.getD i .none) = _
    rw [List.getD_eq_getElem?_getD, List.getElem?_eq_getElem hl]
    rfl
  · rw [List.getElem?_eq_none (by simpa using hi), List.getElem?_eq_none (by simpa using hi)]
theorem getItem_tup_rev {t sl : Addr} {items : Array Value} {u : Tok} {Q : Value → Shared → Prop} (ht : IsTup s.heap t items) (hs : s.heap.IsSliceOf sl .none .none (.int (-1) u))
    (h : Q (.ref s.heap.objs.size) { s with heap := s.heap.push { cls := .type "tuple", data := .seq items.toList.reverse.toArray } }) (hz : items.size ≤ sizeLine) : wpAny (model prog w) A (getItem (.ref t) (.ref sl)) Q E s := by
  have hz2 : sizeOk (.seq items.toList.reverse.toArray) := by
    show items.toList.reverse.toArray.size ≤ sizeLine
    rw [List.size_toArray, List.length_reverse, Array.length_toList]
    exact hz
  obtain ⟨os, ho, hcs, hds⟩ := id hs
  have hT : s.TypeIs (.ref sl) "slice" := ⟨os, ho, hcs⟩
  unfold getItem
  try with_reducible refine wpAny_holding ?_
  first | refine wpAny_bind (wpAny_pure ?_) | skip
  refine wpAny_bind (wpAny_sequenceKey ht.typeIs (by decide) (wpAny_bind (wpAny_callSpecial?_slot (name := Str.ofString "__getitem__") ht.typeIs PyProof.Rows.slot_tuple_getitem (wpAny_call_entry PyProof.Rows.slot_tuple_getitem ht.typeIs entry_tuple_getitem ?_ (args_tuple_getitem _ _)))))
  show wpAny _ _ (Builtin.Tuple.tupleItemsOf (.ref t) >>= _) _ _ s
  refine wpAny_bind (tupleItemsOf_ ht (wpAny_bind (wpAny_typeOf hT ?_)))
  rw [if_pos (by decide)]
  refine wpAny_bind ?_
  show wpAny _ _ (Builtin.Slice.sliceApplied (.ref sl) (pure (items.size : Int))) _ _ s
  unfold Builtin.Slice.sliceApplied Builtin.Slice.sliceFields
  refine wpAny_bind (wpAny_bind (wpAny_field ho hds (x := .none) rfl (wpAny_bind (wpAny_field ho hds (x := .none) rfl (wpAny_bind (wpAny_field ho hds (x := .int (-1) u) rfl (wpAny_pure ?_)))))))
  refine wpAny_bind (HT.slicePart_ (.int (-1) u) ?_)
  show wpAny _ _ (if ((-1 : Int) == 0) = true then _ else _) _ _ s
  rw [if_neg (by decide)]
  refine wpAny_bind (HT.slicePart_ .none (wpAny_bind (HT.slicePart_ .none (wpAny_bind (wpAny_pure ?_)))))
  show wpAny _ _ (match Builtin.Slice.sliceAdjust none none (-1) (items.size : Int) with | (lo, hi) => pure (lo, (-1 : Int), Builtin.Slice.slicePlaces lo hi (-1))) _ _ s
  rw [rev_places]
  show wpAny _ _ (pure ((items.size : Int) - 1, (-1 : Int), Builtin.Slice.slicePlaces ((items.size : Int) - 1) (-1) (-1))) _ _ s
  rw [rev_count]
  refine wpAny_pure ?_
  show wpAny _ _ (if (((items.size : Int) - 1) == 0 && (-1 : Int) == 1 && items.size == items.size) = true then _ else _) _ _ s
  have no : ¬ ((((items.size : Int) - 1) == 0 && (-1 : Int) == 1 && items.size == items.size) = true) := by simp
  rw [if_neg no, rev_pick]
  first
    | exact wpAny_bind (m := Builtin.Tuple.tupleExact _) (wpAny_newObj_type (wpAny_pure ⟨_, rfl, wpAny_pure h⟩) hz2)
    | exact wpAny_bind (wpAny_bind (m := Builtin.Tuple.tupleExact _) (wpAny_newObj_type (wpAny_pure (wpAny_pure ⟨_, rfl, wpAny_pure h⟩)) hz2))
end
def rRev (K : PySem.W.Frag) : V → Hp → VK → Prop := fun x H Q => ∃ a xs, x = .ref a ∧ ((SqL K H a xs ∧ ∀ p, H p = none → Q (.ref p) (upd H p (.lst xs.reverse))) ∨ (SqT K H a xs ∧ ∀ p, H p = none → Q (.ref p) (upd H p (.tup xs.reverse))))
section
variable {X : Cx} {G : Cn}
theorem pe_rev {e : Expr} {te : TE} {k : Nat} {p1 p2 p3 pos : Pos} (he : PE X e te) : PE X (.Subscript e (.Slice none none (some (.UnaryOp .USub (.Constant (.int 1) k p1) p2)) p3) pos) (tUn (rRev X.K) te) := by
  refine ⟨fun pins s σ H Q I h => Subscript_ (thn (he.run pins s σ H _ I h) fun v s1 z => ?_)⟩
  obtain ⟨x, H1, I1, r1, a, xs, rfl, q⟩ := z
  cases r1
  have stp : PO X (some (.UnaryOp .USub (.Constant (.int 1) k p1) p2)) (tPart (tUn (rU fun i => .int (-i)) (tC (.int 1)))) := po_some (pe_un un_neg pe_int)
  refine wpAny_Slice (thn (po_none.run pins s1 σ H1 (fun o Z => o = none ∧ Z = H1) I1 ⟨rfl, rfl⟩) fun vl s2 z2 => ?_)
  obtain ⟨l, H2, I2, pl, rfl, rfl⟩ := z2
  refine thn (po_none.run pins s2 σ H2 (fun o Z => o = none ∧ Z = H2) I2 ⟨rfl, rfl⟩) fun vu s3 z3 => ?_
  obtain ⟨u, H3, I3, pu, rfl, rfl⟩ := z3
  refine thn (stp.run pins s3 σ H3 (fun o Z => o = some (-1) ∧ Z = H3) I3 ⟨1, rfl, -1, rfl, rfl, rfl⟩) fun vs s4 z4 => ?_
  obtain ⟨o, H4, I4, ps, rfl, rfl⟩ := z4
  have I5 : Inv X pins σ H4 { s4 with heap := s4.heap.push { cls := .type "slice", data := .fields #[vl, vu, vs] } } := I4.kept (t' := s4.toks) fun b ob y => Heap.get?_push_of_some _ y
  show wpAny (model X.prog X.w) X.A (subscriptTail e (.Slice none none (some (.UnaryOp .USub (.Constant (.int 1) k p1) p2)) p3) (.ref a) (.ref s4.heap.objs.size)) (EP X pins σ Q) X.xe { s4 with heap := s4.heap.push { cls := .type "slice", data := .fields #[vl, vu, vs] } }
  rcases q with ⟨hx, q⟩ | ⟨hx, q⟩
  · obtain ⟨its, r, ht, hz⟩ := I5.list hx
    have hlen := r.length
    refine tail_any (ops := [.ref a, .ref s4.heap.objs.size]) ht.isList.typeIs (PySem.slot_list_getitem.lookup) (wpAny_getItem_list_slice ht.isList (Heap.IsSliceOf.new _ vl vu vs) pl pu ps (by decide) ?_ (by rw [List.size_toArray]; omega)) (by with_unfolding_all rfl)
    rw [PySem.W.krv_pick]
    exact ⟨.ref _, _, I5.laid (t' := s4.toks) (o := .lst xs.reverse) (fun b ob y => Heap.get?_push_of_some _ y) (Nat.le_refl _) ⟨by rw [List.length_reverse]; exact hz, _, 0, r.reverse, Heap.get?_push_size _ rfl⟩, rfl, q _ (I5.hok.fresh (Nat.le_refl _))⟩
  · obtain ⟨its, r, ht, hz⟩ := I5.tuple hx
    have hlen := r.length
    cases pl
    cases pu
    cases ps
    refine tail_any (ops := [.ref a, .ref s4.heap.objs.size]) ht.typeIs PyProof.Rows.slot_tuple_getitem.lookup (getItem_tup_rev ht (Heap.IsSliceOf.new _ _ _ _) ?_ (by rw [List.size_toArray]; omega)) (by with_unfolding_all rfl)
    exact ⟨.ref _, _, I5.laid (t' := s4.toks) (o := .tup xs.reverse) (fun b ob y => Heap.get?_push_of_some _ y) (Nat.le_refl _) ⟨by rw [List.length_reverse]; exact hz, _, r.reverse, IsTup.new _ _⟩, rfl, q _ (I5.hok.fresh (Nat.le_refl _))⟩
theorem ow_sh {st : AS} {σ : L2.St} {H : Hp} {O O' : Addr → Prop} {H' : Hp} {v : V} {d : D} {Q : VK} (sp : Stp true G.hd O H O' H') (S : SR G st σ H' O') (r : VR G .ow st σ H' O' v d) (q : ∀ v' H' O', Stp true G.hd O H O' H' → SR G st σ H' O' → VR G .sh st σ H' O' v' d → Q v' H') : Q v H' := by
  obtain ⟨a, rfl, ⟨ho, ds, vs, rfl, e2, e3⟩, hn⟩ := r
  exact q _ H' (fun b => O' b ∧ b ≠ a) sp.give (S.give hn) (.inl (.lst (.inl e2) (fun z => z.elim (fun z => S.bo a z ho) fun z => z.2 rfl) (e3.mono fun c z => z.elim .inl fun z => .inr z.1)))
theorem u_rev {own : Bool} : U1 G (kOf own) (oRev own) (rRev G.K) := by
  intro st σ H O v d d' Q S hv ho q
  cases d with
  | lst xs =>
    cases ho
    obtain ⟨a, vs, rfl, ha, hvs⟩ := hv.lst
    refine ⟨a, vs, rfl, .inl ⟨Rd.sql ha, fun p hp => ?_⟩⟩
    obtain ⟨s1, S1, r1⟩ := end_lst S hp hvs.rev
    cases own with
    | true => exact q _ _ _ s1 S1 r1
    | false => exact ow_sh s1 S1 r1 q
  | tup xs =>
    cases own with
    | true => cases ho
    | false =>
      cases ho
      obtain ⟨a, vs, rfl, ha, hvs⟩ := hv.tup
      refine ⟨a, vs, rfl, .inr ⟨ha, fun p hp => ?_⟩⟩
      obtain ⟨s1, S1, r1⟩ := end_tup S hp hvs.rev
      exact q _ _ _ s1 S1 r1
  | _ => cases ho
end
end EV
/-! more words: an item stored, a name added to, least and greatest, enumerate, two new lists at once -/
namespace EV
open PySem PySem.Spec PyProof.Rows L2 RZ
section
variable {X : Cx} {G : Cn} {ro pu : Bool}
/-- x op= e, whole numbers -/
def sAug (f : Int → Int → Int) (i : Nat) (m : ME) : MS := fun st => match getS st i with
  | some (.int x) => (m st).bind fun y => match y.1 with | .int z => .ok (.nx (y.2.set i (some (.int (f x z))))) | _ => .bad
  | _ => .bad
theorem w_aug {f : Int → Int → Int} {i : Nat} {m : ME} (hk : G.kd i = false) (Dn : Ends) (σ : L2.St) (H : Hp) (q : TSm G ro (sAug f i m) Dn σ H) : tAug i (T G .sh pu m) (ipI f) Dn σ H := by
  obtain ⟨st, O, S, q⟩ := q
  unfold sAug at q
  cases e : getS st i with
  | none => rw [e] at q; exact q.elim
  | some d =>
    rw [e] at q
    cases d with
    | int x =>
      obtain ⟨v, e1, r⟩ := S.val i _ (getS_some e)
      rw [hk] at r
      have ev : v = .int x := VR.int (st := st) (σ := σ) (O := O) (.inl r)
      subst ev
      refine ⟨.int x, e1, st, O, S, R.all_mono (fun y q w H1 O1 s1 S1 r1 => ?_) (R.all_bind q)⟩
      obtain ⟨d, st1⟩ := y
      cases d with
      | int z =>
        have ew : w = .int z := VR.int (st := st1) (σ := σ) (O := O1) (.inl r1)
        subst ew
        exact ⟨x, z, rfl, rfl, q _ H1 O1 s1.weak (S1.putS hk (.inl (.int _)))⟩
      | _ => exact q.elim
    | _ => exact q.elim
/-- the lesser, the greater of two -/
def oMin2 : D → D → Option D := oI fun i j => some (.int (if j < i then j else i))
def oMax2 : D → D → Option D := oI fun i j => some (.int (if j > i then j else i))
theorem w_c2 {op : D → D → Option D} {r : List V → Hp → VK → Prop} {m n : ME} (hu : U2 G .sh op (fun x y H Q => r [x, y] H Q)) (σ : L2.St) (H : Hp) (Q : VK) (q : T G .sh true (m2 op m n) σ H Q) : tCB r (L2.tCons (T G .br true m) (L2.tCons (T G .br true n) L2.tNil)) σ H Q := w_2 hu σ H Q q
theorem u_min2 : U2 G .sh oMin2 (fun x y H Q => ∃ i j, [x, y] = [V.int i, V.int j] ∧ Q (.int (if j < i then j else i)) H) := by
  intro st σ H O v w d e d' Q S hv hw ho q
  cases d with
  | int i =>
    cases e with
    | int j =>
      cases ho
      rw [hv.int, hw.int]
      exact ⟨i, j, rfl, q _ H O Stp.refl S (.inl (.int _))⟩
    | _ => cases ho
  | _ => cases e <;> cases ho
theorem u_max2 : U2 G .sh oMax2 (fun x y H Q => ∃ i j, [x, y] = [V.int i, V.int j] ∧ Q (.int (if j > i then j else i)) H) := by
  intro st σ H O v w d e d' Q S hv hw ho q
  cases d with
  | int i =>
    cases e with
    | int j =>
      cases ho
      rw [hv.int, hw.int]
      exact ⟨i, j, rfl, q _ H O Stp.refl S (.inl (.int _))⟩
    | _ => cases ho
  | _ => cases e <;> cases ho
/-- the least, the greatest of a list of whole numbers -/
def minI (x : Int) : List Int → Int
  | [] => x
  | y :: r => minI (if y < x then y else x) r
def maxI (x : Int) : List Int → Int
  | [] => x
  | y :: r => maxI (if x < y then y else x) r
theorem minI_ok : ∀ (l : List Int) (x : Int), minI x l ∈ x :: l ∧ ∀ y ∈ x :: l, minI x l ≤ y
  | [], x => ⟨by simp [minI], by simp [minI]⟩
  | z :: r, x => by
    obtain ⟨h1, h2⟩ := minI_ok r (if z < x then z else x)
    unfold minI
    have h3 := h2 _ (List.mem_cons_self ..)
    have h4 : (if z < x then z else x) ≤ x ∧ (if z < x then z else x) ≤ z := by split <;> omega
    refine ⟨?_, fun y hy => ?_⟩
    · rcases List.mem_cons.mp h1 with h | h
      · rw [h]; split <;> simp
      · simp [h]
    · rcases List.mem_cons.mp hy with h | h
      · rw [h]; exact Int.le_trans h3 h4.1
      · rcases List.mem_cons.mp h with h | h
        · rw [h]; exact Int.le_trans h3 h4.2
        · exact h2 y (by simp [h])
theorem maxI_ok : ∀ (l : List Int) (x : Int), maxI x l ∈ x :: l ∧ ∀ y ∈ x :: l, y ≤ maxI x l
  | [], x => ⟨by simp [maxI], by simp [maxI]⟩
  | z :: r, x => by
    obtain ⟨h1, h2⟩ := maxI_ok r (if x < z then z else x)
    unfold maxI
    have h3 := h2 _ (List.mem_cons_self ..)
    have h4 : x ≤ (if x < z then z else x) ∧ z ≤ (if x < z then z else x) := by split <;> omega
    refine ⟨?_, fun y hy => ?_⟩
    · rcases List.mem_cons.mp h1 with h | h
      · rw [h]; split <;> simp
      · simp [h]
    · rcases List.mem_cons.mp hy with h | h
      · rw [h]; exact Int.le_trans h4.1 h3
      · rcases List.mem_cons.mp h with h | h
        · rw [h]; exact Int.le_trans h4.2 h3
        · exact h2 y (by simp [h])
def oMinL : D → Option D
  | .lst xs => (match ints? xs with | some (x :: r) => some (.int (minI x r)) | _ => none)
  | _ => none
def oMaxL : D → Option D
  | .lst xs => (match ints? xs with | some (x :: r) => some (.int (maxI x r)) | _ => none)
  | _ => none
theorem u_minL : U1 G .sh oMinL (fun x H Q => rMin G.K [x] H Q) := by
  intro st σ H O v d d' Q S hv ho q
  cases d with
  | lst xs =>
    obtain ⟨a, vs, rfl, h, hs⟩ := hv.lst
    unfold oMinL at ho
    dsimp only at ho
    split at ho
    · rename_i x r e
      cases ho
      obtain ⟨h1, h2⟩ := minI_ok r x
      refine ⟨a, x :: r, rfl, by rw [← ints_of e hs]; exact .inl h, Nat.succ_pos _, fun m hm hle => ?_⟩
      have : m = minI x r := Int.le_antisymm (hle _ h1) (h2 _ hm)
      rw [this]
      exact q _ H O Stp.refl S (.inl (.int _))
    · cases ho
  | _ => cases ho
theorem u_maxL : U1 G .sh oMaxL (fun x H Q => rMax G.K [x] H Q) := by
  intro st σ H O v d d' Q S hv ho q
  cases d with
  | lst xs =>
    obtain ⟨a, vs, rfl, h, hs⟩ := hv.lst
    unfold oMaxL at ho
    dsimp only at ho
    split at ho
    · rename_i x r e
      cases ho
      obtain ⟨h1, h2⟩ := maxI_ok r x
      refine ⟨a, x :: r, rfl, by rw [← ints_of e hs]; exact .inl h, Nat.succ_pos _, fun m hm hle => ?_⟩
      have : m = maxI x r := Int.le_antisymm (h2 _ hm) (hle _ h1)
      rw [this]
      exact q _ H O Stp.refl S (.inl (.int _))
    · cases ho
  | _ => cases ho
/-- w[k] = e, w owned -/
def sSet (i : Nat) (mk mv : ME) : MS := fun st => (mv st).bind fun x => match getS x.2 i with
  | none => .bad
  | some _ => (mk x.2).bind fun y => match getS y.2 i with
    | some (.lst ds) => (match y.1 with
      | .int k => (match ixN ds.length k with
        | some j => (match isH x.1 with | true => .bad | false => .ok (.nx (y.2.set i (some (.lst (ds.set j x.1))))))
        | none => .bad)
      | _ => .bad)
    | _ => .bad
theorem w_set {i : Nat} {mk mv : ME} (hk : G.kd i = true) (Dn : Ends) (σ : L2.St) (H : Hp) (q : TSm G ro (sSet i mk mv) Dn σ H) : tAsg (T G .sh pu mv) (gSub (tVar i) (T G .sh true mk) rSetL) Dn σ H := by
  obtain ⟨st, O, S, q⟩ := q
  refine ⟨st, O, S, R.all_mono (fun x q v H1 O1 s1 S1 r1 => ?_) (R.all_bind q)⟩
  cases e0 : getS x.2 i with
  | none => rw [e0] at q; exact q.elim
  | some d0 =>
    rw [e0] at q
    obtain ⟨a, ds0, vs0, rfl, ea, ho, hA, h0⟩ := S1.slot hk e0
    refine ⟨_, ea, x.2, O1, S1, R.all_mono (fun y q w H2 O2 s2 S2 r2 => ?_) (R.all_bind q)⟩
    obtain ⟨y1, y2⟩ := y
    cases e1 : getS y2 i with
    | none => simp only [e1] at q; exact q.elim
    | some d1 =>
      simp only [e1] at q
      obtain ⟨b, ds, vs, rfl, eb, ho1, hB, h1⟩ := S2.slot hk e1
      rw [ea] at eb
      cases eb
      cases y1 with
      | int k =>
        cases ej : ixN ds.length k with
        | none => simp only [ej] at q; exact q.elim
        | some j =>
          simp only [ej] at q
          cases f : isH x.1 with
          | true => simp only [f] at q; exact q.elim
          | false =>
            simp only [f] at q
            have ew : w = .int k := VR.int (st := y2) (σ := σ) (O := O2) (.inl r2)
            subst ew
            have r1' : ShR G.K G.hd H2 (G.F O2) v x.1 := S1.car s2 r1
            have r3 : Sh G.K H2 (G.F O2) v x.1 := by
              rcases r1' with r | ⟨z, _⟩
              · exact r
              · rw [z] at f; cases f
            obtain ⟨S3, s3⟩ := S2.mut hk (getS_some e1) ea ho1 ⟨_, hB⟩ (h1.set j r3)
            refine ⟨a, vs, k, j, rfl, rfl, hB, by rw [h1.length]; exact ej, ?_⟩
            exact q _ _ O2 ((s1.weak.trans s2.weak S2.hO).trans s3 S3.hO) S3
      | _ => exact q.elim
/-- enumerate -/
theorem it_enum {H : Hp} {O : Addr → Prop} {a : Addr} {vs : List V} {xs : List D} (ha : Rd H a (.lst vs)) (na : ¬ G.F O a) (hx : Shs G.K H (G.F O) vs xs) : ItOk G false (Ite G.K a) (enumD 0 xs) H O := by
  refine ⟨fun B H O => (Rd H a (.lst vs) ∧ ¬ (G.at B).F O a) ∧ Shs G.K H ((G.at B).F O) vs xs, ⟨⟨ha, na⟩, hx⟩, ?_, ?_, ?_, ?_⟩
  · rintro B st σ H O H' O' ⟨⟨h1, h2⟩, h5⟩ S sp
    exact ⟨stab S sp h1 h2, S.cars0 sp h5⟩
  · rintro B i st σ H O ⟨⟨h1, h2⟩, h5⟩ S
    refine ⟨fun hi => ?_, fun hi => ⟨vs, .inl h1, by rw [enumD_len] at hi; rw [h5.length]; exact hi⟩⟩
    rw [enumD_len] at hi
    obtain ⟨v, e1, r1⟩ := h5.get (List.getElem?_eq_getElem hi)
    refine ⟨⟨vs, v, .inl h1, e1⟩, ?_⟩
    rintro x H' ⟨A, x1, ex, hA, eH, f1⟩
    have g1 := f1 vs (.inl h1)
    rw [e1] at g1
    cases g1
    refine ⟨_, enumD_get (k := 0) (List.getElem?_eq_getElem hi), yld_pair S (.int _) r1 hA ex ?_⟩
    rw [Int.zero_add]
    exact eH
  · rintro B A st σ H O ⟨⟨h1, h2⟩, h5⟩ S hA
    exact ⟨⟨rd_upd hA h1, nF_add hA h1 h2⟩, shs_add hA h5⟩
  · rintro B A zs H O ⟨⟨h1, h2⟩, h5⟩ hB hA
    exact ⟨⟨rd_set (fun z => h2 (.inl (z ▸ hB))) h1, h2⟩, shs_set (.inl hB) hA h5⟩
theorem i_enum {a : Expr} {m : ME} {p pos tpos : Pos} {elts : List Expr} {kk : Nat} (hK : X.K = G.K) (hg : Gl X "enumerate") (hm : X.mg "enumerate" = none) (ha : PE X a (T G .sh pu m)) (hs : notStar a = true) :
    PI X (.Tuple elts kk tpos) (.Call (.Name "enumerate" p) [a] [] pos) (TSrc G pu false (sEnum m)) :=
  PI.weak (pi_enum hg hm (pa_cons ha pa_nil (star_of hs)) (star_of hs)) fun σ H Z q => by
  obtain ⟨st, O, S, q⟩ := q
  refine ⟨st, O, S, R.all_mono (fun p q v H1 O1 s1 S1 r1 => ?_) (R.all_bind q)⟩
  obtain ⟨d, st1⟩ := p
  cases d with
  | lst xs =>
    rcases r1 with r1 | ⟨z, _⟩
    · cases r1 with
      | lst hr hf hss =>
        rw [hK]
        exact ⟨_, _, rfl, .inl hr, q _ H1 O1 s1 S1 (it_enum hr hf hss)⟩
    · cases z
  | _ => exact q.elim
/-- an owned list that no slot holds goes to the base -/
theorem SR.toB {B : Addr → Prop} {st : AS} {σ : L2.St} {H : Hp} {O : Addr → Prop} {A : Addr} (S : SR (G.at B) st σ H O) (hO : O A) (fr : ∀ (i : Nat) (d' : D), G.kd i = true → st[i]? = some (some d') → σ[i]? ≠ some (some (.ref A))) : SR (G.at fun b => B b ∨ b = A) st σ H (fun b => O b ∧ b ≠ A) := by
  have hf : ∀ b, (G.at fun b => B b ∨ b = A).F (fun b => O b ∧ b ≠ A) b → (G.at B).F O b := fun b z => by
    rcases z with (z | z) | z
    · exact .inl z
    · exact .inr (z ▸ hO)
    · exact .inr z.1
  refine ⟨S.len, fun i d e => ?_, S.ap, fun b z => S.tr b (hf b z), fun b hb z => ?_, S.hn.up fun _ z => .inl z⟩
  · obtain ⟨v, e1, q⟩ := S.val i d e
    refine ⟨v, e1, ?_⟩
    have hk' : (G.at fun b => B b ∨ b = A).kd i = G.kd i := rfl
    have hk2 : (G.at B).kd i = G.kd i := rfl
    rw [hk2] at q
    rw [hk']
    cases hk : G.kd i with
    | true =>
      rw [hk] at q
      obtain ⟨b, rfl, ho, ds, vs, e2, e3, e4⟩ := q
      exact ⟨b, rfl, ⟨ho, fun z => fr i d hk e (by rw [e1, z])⟩, ds, vs, e2, e3, e4.mono hf⟩
    | false =>
      rw [hk] at q
      exact ShR.mono hf q
  · rcases hb with hb | hb
    · exact S.bo b hb z.1
    · exact z.2 hb
/-- two new lists, to two names -/
def sParO (i j : Nat) (a b : ME) : MS := fun st => (a st).bind fun x => (b x.2).bind fun y => .ok (.nx ((y.2.set i (some x.1)).set j (some y.1)))
theorem w_parO {i j : Nat} {a b : ME} (hi : G.kd i = true) (hj : G.kd j = true) (hij : i ≠ j) (Dn : Ends) (σ : L2.St) (H : Hp) (q : TSm G ro (sParO i j a b) Dn σ H) : tPar i j (L2.tCons (T G .ow pu a) (L2.tCons (fun σ H Q => ∃ B, T (G.at B) .ow true b σ H Q) L2.tNil)) Dn σ H := by
  obtain ⟨st, O, S, q⟩ := q
  refine ⟨st, O, S, R.all_mono (fun x q v H1 O1 s1 S1 r1 => ?_) (R.all_bind q)⟩
  obtain ⟨A, rfl, ⟨ho, ds, vs, ed, eA, hs⟩, fr⟩ := r1
  have nB : ¬ G.B A := fun z => S1.bo A z ho
  have nh : G.hd ≠ some A := fun z => nB (S1.hn A z).1.1
  have S1' : SR (G.at fun c => G.B c ∨ c = A) x.2 σ H1 (fun c => O1 c ∧ c ≠ A) := SR.toB (G := G) (B := G.B) S1 ho fr
  refine ⟨fun c => G.B c ∨ c = A, x.2, _, S1', R.all_mono (fun y q w H2 O2 s2 S2 r2 => ?_) (R.all_bind q)⟩
  obtain ⟨A2, rfl, ⟨ho2, ds2, vs2, ed2, eA2, hs2⟩, fr2⟩ := r2
  have nA : ¬ O2 A := S2.bo A (.inr rfl)
  have neA : A2 ≠ A := fun z => nA (z ▸ ho2)
  have kA : H2 A = some (.lst vs) := s2.pr A _ eA (.inl rfl) nh
  have hs' : Shs G.K H1 ((G.at fun c => G.B c ∨ c = A).F fun c => O1 c ∧ c ≠ A) vs ds := hs.mono fun c z => by
    rcases z with (z | z) | z
    · exact .inl z
    · exact .inr (z ▸ ho)
    · exact .inr z.1
  have hs3 : Shs G.K H2 ((G.at fun c => G.B c ∨ c = A).F O2) vs ds := S1'.cars0 s2 hs'
  have hbh : ∀ c, G.hd = some c → G.B c ∧ G.B G.hc := fun c ec => ⟨(S.hn c ec).1.1, (S.hn c ec).1.2.1⟩
  have S3 : SR G y.2 σ H2 (fun c => O2 c ∨ c = A) := SR.unB (G := G) (B := G.B) S2 nB hbh
  have sp : Stp pu G.hd O H (fun c => O2 c ∨ c = A) H2 := by
    have s1' : Stp pu G.hd O1 H1 (fun c => O2 c ∨ c = A) H2 := ⟨fun c o e _ n => s2.pr c o e (.inl rfl) n, fun c z => z.elim (fun z => (s2.nw c z).imp (fun z => z.1) id) fun z => .inl (z ▸ ho)⟩
    exact s1.trans s1' S3.hO
  have lv : ∀ (k : Nat) (d' : D), G.kd k = true → y.2[k]? = some (some d') → ∃ c, σ[k]? = some (some (.ref c)) ∧ O2 c := fun k d' hk e => by
    obtain ⟨v, e1, r⟩ := S2.val k d' e
    have hk' : (G.at fun c => G.B c ∨ c = A).kd k = true := hk
    rw [hk'] at r
    obtain ⟨c, rfl, oc, _⟩ := r
    exact ⟨c, e1, oc⟩
  have fF : ∀ c, G.F (fun c => O2 c ∨ c = A) c → (G.at fun c => G.B c ∨ c = A).F O2 c := fun c z => by
    rcases z with z | z | z
    · exact .inl (.inl z)
    · exact .inr z
    · exact .inl (.inr z)
  have S4 := S3.putO (i := i) (a := A) (d := x.1) hi ⟨.inr rfl, ds, vs, ed, kA, hs3.mono fF⟩ fun k d' hk hkk e z => by
    obtain ⟨c, e1, oc⟩ := lv k d' hkk e
    rw [e1] at z
    cases z
    exact nA oc
  have S5 := S4.putO (i := j) (a := A2) (d := y.1) hj ⟨.inl ho2, ds2, vs2, ed2, eA2, hs2.mono fF⟩ fun k d' hk hkk e z => by
    by_cases ki : k = i
    · subst ki
      have hl : k < σ.length := by
        rcases Nat.lt_or_ge k σ.length with h | h
        · exact h
        · rw [List.getElem?_eq_none (by simpa using h)] at z; cases z
      rw [List.getElem?_set_self hl] at z
      cases z
      exact neA rfl
    · rw [List.getElem?_set_ne (Ne.symm ki)] at z e
      exact fr2 k d' hkk e z
  exact ⟨_, _, rfl, q _ H2 _ sp.weak S5⟩
end
end EV
/-! lists and tuples so many times, w[k] op= e -/
namespace L2
open PySem PySem.Spec PyProof.Rows
theorem tuple_mul1 (l : Addr) (items : Array Value) (n : Nat) (dd : Option Addr) (sl : Array (Option Value)) (u : Tok) (hi : items.isEmpty = false) :
    Meets (Builtin.«tuple.__mul__» ⟨[.ref l, .int 1 u], []⟩) (fun _ R s => s.heap.get? l = some { cls := .type "tuple", dict := dd, data := .seq items n, slots := sl } ∧ R (.ok (.ret (Value.ref l))) s) :=
  .of_wp fun prog w A R s h => by
    obtain ⟨hp, g, d, tk, os⟩ := s
    obtain ⟨hl, h⟩ := h
    have f1 := AutoSeq1.idx_int
    wp_walk using wpAny_loadPart' hl
    exact ⟨_, rfl, h⟩
section
variable {X : Cx}
/-- t * 1 is t -/
theorem op_repT1 : OpR X (binaryOp .Mult) (fun x y H Q => ∃ l xs, x = .ref l ∧ y = .int 1 ∧ SqT X.K H l xs ∧ xs ≠ [] ∧ Q (.ref l) H) := by
  intro pins s σ H x y v u Q I rx ry h
  obtain ⟨l, xs, rfl, rfl, hT, hne, q⟩ := h
  cases rx
  obtain ⟨t, rfl⟩ := ry
  obtain ⟨its, r, ⟨⟨cls, dd, data, sl⟩, ho, hc, n, hd⟩, hs⟩ := I.tuple hT
  simp only at hc hd
  subst hc hd
  have hle : its.length = xs.length := r.length.symm
  have hi : its.toArray.isEmpty = false := by
    cases its with
    | nil => exact absurd (List.eq_nil_of_length_eq_zero (hle.symm.trans rfl)) hne
    | cons a b => rfl
  exact wpAny_binaryOp_repeat_ref (T := "tuple") (U := "int") (by decide) ⟨_, ho, rfl⟩ (fun s' => typeIs_int s' 1 t) noFill_tuple_mul F.fills_int_mul F.slot_int_rmul repeat_tuple F.slot_int_index.lookup
    (call_meets F.slot_int_rmul (typeIs_int s 1 t) F.entry_int_rmul (F.args_int_rmul_2 _ _) (int_rmul_tuple 1 t l its.toArray n dd sl)
      ⟨ho, rfl, ⟨_, ho, rfl⟩, call_meets F.slot_tuple_mul ⟨_, ho, rfl⟩ F.entry_tuple_mul (F.args_tuple_mul_2 _ _) (tuple_mul1 l its.toArray n dd sl t hi) ⟨ho, ⟨.ref l, H, I, rfl, q⟩⟩⟩)
/-- a list's item, by values -/
theorem get_list : PGet X (fun o i H Q => rIxL X.K o i H Q) := by
  intro pins s σ H x y v u Q I rx ry h
  obtain ⟨p, xs, i, z, rfl, rfl, hq, he, q⟩ := h
  cases rx
  obtain ⟨t, rfl⟩ := ry
  obtain ⟨its, r, pl, hz⟩ := I.list hq
  obtain ⟨j, h1, h2, h3, h4, h5⟩ := atI_get he
  obtain ⟨w, ew, rw'⟩ := r.get h2
  have hl := r.length
  have hn := line63
  have fin : EP X pins σ Q w s := ⟨z, H, I, rw', q⟩
  by_cases h0 : 0 ≤ i
  · have hj : i.toNat = j := by
      rw [seqIndex_of h0 h5] at h1
      exact Option.some.inj h1
    exact wpAny_getItem_list pl.isList h0 (by omega) (by rw [hj]; simpa using ew) fin
  · have hj : (i + (its.toArray.size : Int)).toNat = j := by
      rw [seqIndex_neg (by omega) h4] at h1
      rw [List.size_toArray, ← hl]
      exact Option.some.inj h1
    exact wpAny_getItem_list_neg pl.isList (by omega) (by rw [List.size_toArray] <;> omega) (by omega) (by rw [hj]; simpa using ew) fin
end
end L2
namespace EV
open PySem PySem.Spec PyProof.Rows L2 RZ
section
variable {X : Cx} {G : Cn} {ro pu : Bool}
theorem Shs.rep {K : PySem.W.Frag} {H : Hp} {F : Addr → Prop} {vs : List V} {ds : List D} (h : Shs K H F vs ds) : ∀ n : Nat, Shs K H F (List.replicate n vs).flatten (List.replicate n ds).flatten
  | 0 => .nil
  | n + 1 => by
    rw [List.replicate_succ, List.replicate_succ, List.flatten_cons, List.flatten_cons]
    exact h.append (Shs.rep h n)
/-- a tuple so many times -/
def oMulT (d e : D) : Option D := match d with
  | .tup xs => (match e with
    | .int k => (match decide (k = 1) with
      | true => (match xs with | [] => none | x :: r => some (.tup (x :: r)))
      | false => (match decide (2 ≤ k) && decide (k ≤ 1000) && Nat.ble xs.length 1000 with
        | true => (match xs with | [] => none | x :: r => some (.tup (List.replicate k.toNat (x :: r)).flatten))
        | false => none))
    | _ => none)
  | d => oMul d e
theorem u_mulT : U2 G .sh oMulT (fun x y H Q => rI CMul (fun i j => .int (i * j)) x y H Q ∨ ((∃ l xs, x = .ref l ∧ y = .int 1 ∧ SqT G.K H l xs ∧ xs ≠ [] ∧ Q (.ref l) H) ∨ rRepT G.K x y H Q)) := by
  intro st σ H O v w d e d' Q S hv hw ho q
  cases d with
  | tup xs =>
    cases e with
    | int k =>
      rw [hw.int]
      obtain ⟨a, vs, rfl, h1, h2⟩ := hv.tup
      unfold oMulT at ho
      dsimp only at ho
      cases xs with
      | nil => split at ho <;> first | cases ho | (split at ho <;> cases ho)
      | cons x r =>
        have hne : vs ≠ [] := fun z => by rw [z] at h2; cases h2
        split at ho
        · rename_i e1
          cases ho
          have e1 := of_decide_eq_true e1
          subst e1
          exact .inr (.inl ⟨a, vs, rfl, rfl, h1, hne, q _ H O Stp.refl S (.inl (.tup h1 h2))⟩)
        · split at ho
          · rename_i e2
            cases ho
            simp only [Bool.and_eq_true, decide_eq_true_eq] at e2
            have e3 := Nat.le_of_ble_eq_true e2.2
            refine .inr (.inr ⟨a, k, vs, rfl, rfl, h1, hne, e2.1.1, e2.1.2, by rw [h2.length]; exact e3, fun p hp => ?_⟩)
            obtain ⟨s1, S1, r1⟩ := end_tup S hp (Shs.rep h2 k.toNat)
            exact q _ _ O s1 S1 r1
          · cases ho
    | _ => cases ho
  | int i => exact .inl (u_mul S hv hw ho q)
  | _ => cases e <;> cases ho
/-- a new list so many times -/
def oRepL (d e : D) : Option D := match d with
  | .lst xs => (match e with
    | .int k => (match decide (k ≤ 16000000) && decide (-16000000 ≤ k) && lenOk (xs.length * k.toNat) with | true => some (.lst (List.replicate k.toNat xs).flatten) | false => none)
    | _ => none)
  | _ => none
theorem w_rep {m n : ME} (σ : L2.St) (H : Hp) (Q : VK) (q : T G .ow true (m2 oRepL m n) σ H Q) : tOp rRep (T G .ow true m) (T G .br true n) σ H Q := by
  obtain ⟨st, O, S, q⟩ := q
  refine ⟨st, O, S, R.all_mono (fun p q v H1 O1 s1 S1 r1 => ?_) (R.all_bind q)⟩
  obtain ⟨A, rfl, ⟨ho, ds, vs, ed, eA, hs⟩, fr⟩ := r1
  refine ⟨p.2, O1, S1, R.all_mono (fun p2 q w H2 O2 s2 S2 r2 => ?_) (R.all_bind q)⟩
  have nh : G.hd ≠ some A := fun z => S1.bo A (S1.hn A z).1.1 ho
  have eA2 := s2.pr A _ eA (.inl rfl) nh
  have hs2 := S1.cars0 s2 hs
  rw [ed] at q
  obtain ⟨e, st2⟩ := p2
  cases e with
  | int k =>
    have ew := r2.int
    subst ew
    cases c : (decide (k ≤ 16000000) && decide (-16000000 ≤ k) && lenOk (ds.length * k.toNat)) with
    | false => simp only [oRepL, c] at q; exact q.elim
    | true =>
      simp only [oRepL, c] at q
      simp only [Bool.and_eq_true, decide_eq_true_eq] at c
      have c3 := lenOk_le c.2
      refine ⟨A, k, vs, rfl, rfl, eA2, by omega, by omega, by rw [hs2.length]; exact Nat.le_of_lt c3, fun l hl => ?_⟩
      obtain ⟨s3, S3, r3⟩ := end_lst S2 hl (Shs.rep hs2 k.toNat)
      exact q _ _ _ ((s1.trans s2 S2.hO).trans s3 S3.hO) S3 r3
  | _ => exact q.elim
/-- w[k] op= e, whole numbers, w owned -/
def sAugS (f : Int → Int → Int) (i : Nat) (mk mv : ME) : MS := fun st => match getS st i with
  | none => .bad
  | some _ => (mk st).bind fun y => match getS y.2 i with
    | some (.lst ds) => (match y.1 with
      | .int k => (match atI ds k with
        | some (.int x) => (mv y.2).bind fun z => match getS z.2 i with
          | some (.lst es) => (match z.1 with
            | .int w => (match ixN es.length k with
              | some j => .ok (.nx (z.2.set i (some (.lst (es.set j (.int (f x w)))))))
              | none => .bad)
            | _ => .bad)
          | _ => .bad
        | _ => .bad)
      | _ => .bad)
    | _ => .bad
theorem w_augS {f : Int → Int → Int} {i : Nat} {mk mv : ME} (hk : G.kd i = true) (Dn : Ends) (σ : L2.St) (H : Hp) (q : TSm G ro (sAugS f i mk mv) Dn σ H) :
    tAugS (tVar i) (T G .sh true mk) (T G .sh true mv) (fun o i H Q => rIxL G.K o i H Q) (ipI f) rSetL Dn σ H := by
  obtain ⟨st, O, S, q⟩ := q
  unfold sAugS at q
  cases e0 : getS st i with
  | none => rw [e0] at q; exact q.elim
  | some d0 =>
    rw [e0] at q
    obtain ⟨a, ds0, vs0, rfl, ea, ho, hA, h0⟩ := S.slot hk e0
    refine ⟨_, ea, st, O, S, R.all_mono (fun y q w H2 O2 s2 S2 r2 => ?_) (R.all_bind q)⟩
    obtain ⟨y1, y2⟩ := y
    cases e1 : getS y2 i with
    | none => simp only [e1] at q; exact q.elim
    | some d1 =>
      simp only [e1] at q
      obtain ⟨b, ds, vs, rfl, eb, ho1, hB, h1⟩ := S2.slot hk e1
      rw [ea] at eb
      cases eb
      cases y1 with
      | int k =>
        simp only at q
        cases ex : atI ds k with
        | none => rw [ex] at q; exact q.elim
        | some d2 =>
          rw [ex] at q
          cases d2 with
          | int x =>
            have ew : w = .int k := VR.int (st := y2) (σ := σ) (O := O2) (.inl r2)
            subst ew
            have ev : atI vs k = some (.int x) := by
              unfold atI at ex ⊢
              rw [h1.length]
              cases ej : ixN ds.length k with
              | none => rw [ej] at ex; cases ex
              | some j =>
                rw [ej] at ex
                obtain ⟨v, ev, rv⟩ := h1.get ex
                cases rv
                exact ev
            refine ⟨a, vs, k, .int x, rfl, rfl, .inl (.inl hB), ev, y2, O2, S2, R.all_mono (fun z q w H3 O3 s3 S3 r3 => ?_) (R.all_bind q)⟩
            obtain ⟨z1, z2⟩ := z
            cases e2 : getS z2 i with
            | none => simp only [e2] at q; exact q.elim
            | some d3 =>
              simp only [e2] at q
              obtain ⟨c, es, us, rfl, ec, ho3, hC, h3⟩ := S3.slot hk e2
              rw [ea] at ec
              cases ec
              cases z1 with
              | int u =>
                simp only at q
                cases ej : ixN es.length k with
                | none => rw [ej] at q; exact q.elim
                | some j =>
                  rw [ej] at q
                  have ew : w = .int u := VR.int (st := z2) (σ := σ) (O := O3) (.inl r3)
                  subst ew
                  obtain ⟨S4, s4⟩ := S3.mut hk (getS_some e2) ea ho3 ⟨_, hC⟩ (h3.set j (.int (f x u)))
                  refine ⟨x, u, rfl, rfl, a, us, k, j, rfl, rfl, hC, by rw [h3.length]; exact ej, ?_⟩
                  exact q _ _ O3 ((s2.weak.trans s3.weak S3.hO).trans s4 S4.hO) S4
              | _ => exact q.elim
          | _ => exact q.elim
      | _ => exact q.elim
end
end EV
/-! several names at once, some of them new lists -/
namespace EV
open PySem PySem.Spec PyProof.Rows L2 RZ
section
variable {X : Cx} {G : Cn} {ro pu : Bool}
/-- a value and a new list -/
def sParSO (i j : Nat) (a b : ME) : MS := fun st => (a st).bind fun x => (b x.2).bind fun y => .ok (.nx ((y.2.set i (some x.1)).set j (some y.1)))
theorem w_parSO {i j : Nat} {a b : ME} (hi : G.kd i = false) (hj : G.kd j = true) (hij : i ≠ j) (Dn : Ends) (σ : L2.St) (H : Hp) (q : TSm G ro (sParSO i j a b) Dn σ H) : tPar i j (L2.tCons (T G .sh pu a) (L2.tCons (T G .ow true b) L2.tNil)) Dn σ H := by
  obtain ⟨st, O, S, q⟩ := q
  refine ⟨st, O, S, R.all_mono (fun x q v H1 O1 s1 S1 r1 => ?_) (R.all_bind q)⟩
  refine ⟨x.2, O1, S1, R.all_mono (fun y q w H2 O2 s2 S2 r2 => ?_) (R.all_bind q)⟩
  obtain ⟨A, rfl, ow, fr⟩ := r2
  have r1' : ShR G.K G.hd H2 (G.F O2) v x.1 := S1.car s2 r1
  have S3 := S2.putS hi r1'
  have S4 := S3.putO (i := j) (a := A) (d := y.1) hj ow fun k d' hk hkk e z => by
    have ki : k ≠ i := fun z => by rw [z, hi] at hkk; cases hkk
    rw [List.getElem?_set_ne (Ne.symm ki)] at z e
    exact fr k d' hkk e z
  have sp : Stp pu G.hd O H O2 H2 := s1.trans ⟨fun c o e _ n => s2.pr c o e (.inl rfl) n, s2.nw⟩ S2.hO
  exact ⟨_, _, rfl, q _ H2 _ sp.weak S4⟩
/-- two new lists and a value -/
def sParOOS (i j k : Nat) (a b c : ME) : MS := fun st => (a st).bind fun x => (b x.2).bind fun y => (c y.2).bind fun z => .ok (.nx (((z.2.set i (some x.1)).set j (some y.1)).set k (some z.1)))
theorem w_parOOS {i j k : Nat} {a b c : ME} (hi : G.kd i = true) (hj : G.kd j = true) (hk0 : G.kd k = false) (hij : i ≠ j) (Dn : Ends) (σ : L2.St) (H : Hp) (q : TSm G ro (sParOOS i j k a b c) Dn σ H) :
    tPar3 i j k (L2.tCons (T G .ow pu a) (L2.tCons (fun σ H Q => ∃ B, T (G.at B) .ow true b σ H Q) (L2.tCons (fun σ H Q => ∃ B, T (G.at B) .sh true c σ H Q) L2.tNil))) Dn σ H := by
  obtain ⟨st, O, S, q⟩ := q
  refine ⟨st, O, S, R.all_mono (fun x q v H1 O1 s1 S1 r1 => ?_) (R.all_bind q)⟩
  obtain ⟨A, rfl, ⟨ho, ds, vs, ed, eA, hs⟩, fr⟩ := r1
  have nB : ¬ G.B A := fun z => S1.bo A z ho
  have nh : G.hd ≠ some A := fun z => nB (S1.hn A z).1.1
  have S1' : SR (G.at fun c => G.B c ∨ c = A) x.2 σ H1 (fun c => O1 c ∧ c ≠ A) := SR.toB (G := G) (B := G.B) S1 ho fr
  refine ⟨fun c => G.B c ∨ c = A, x.2, _, S1', R.all_mono (fun y q w H2 O2 s2 S2 r2 => ?_) (R.all_bind q)⟩
  obtain ⟨A2, rfl, ⟨ho2, ds2, vs2, ed2, eA2, hs2⟩, fr2⟩ := r2
  have nA : ¬ O2 A := S2.bo A (.inr rfl)
  have neA : A2 ≠ A := fun z => nA (z ▸ ho2)
  have kA : H2 A = some (.lst vs) := s2.pr A _ eA (.inl rfl) nh
  have hs' : Shs G.K H1 ((G.at fun c => G.B c ∨ c = A).F fun c => O1 c ∧ c ≠ A) vs ds := hs.mono fun c z => by
    rcases z with (z | z) | z
    · exact .inl z
    · exact .inr (z ▸ ho)
    · exact .inr z.1
  have hs3 : Shs G.K H2 ((G.at fun c => G.B c ∨ c = A).F O2) vs ds := S1'.cars0 s2 hs'
  have nB2 : ¬ (G.B A2 ∨ A2 = A) := fun z => z.elim (fun z => S2.bo A2 (.inl z) ho2) neA
  have nh2 : G.hd ≠ some A2 := fun z => nB2 (.inl (S1.hn A2 z).1.1)
  have S2' : SR (G.at fun c => (G.B c ∨ c = A) ∨ c = A2) y.2 σ H2 (fun c => O2 c ∧ c ≠ A2) := SR.toB (G := G) (B := fun c => G.B c ∨ c = A) S2 ho2 fr2
  refine ⟨fun c => (G.B c ∨ c = A) ∨ c = A2, y.2, _, S2', R.all_mono (fun z q u H3 O3 s3 S3 r3 => ?_) (R.all_bind q)⟩
  have mv : ∀ c, (G.at fun c => (G.B c ∨ c = A) ∨ c = A2).F (fun c => O2 c ∧ c ≠ A2) c → (G.at fun c => G.B c ∨ c = A).F O2 c := fun c z => by
    rcases z with (z | z) | z
    · exact .inl z
    · exact .inr (z ▸ ho2)
    · exact .inr z.1
  have h3A : H3 A = some (.lst vs) := s3.pr A _ kA (.inl rfl) nh
  have h3A2 : H3 A2 = some (.lst vs2) := s3.pr A2 _ eA2 (.inl rfl) nh2
  have t1 : Shs G.K H3 ((G.at fun c => (G.B c ∨ c = A) ∨ c = A2).F O3) vs ds := S2'.cars0 s3 (hs3.mono mv)
  have t2 : Shs G.K H3 ((G.at fun c => (G.B c ∨ c = A) ∨ c = A2).F O3) vs2 ds2 := S2'.cars0 s3 (hs2.mono mv)
  have nA3 : ¬ O3 A := S3.bo A (.inl (.inr rfl))
  have nA32 : ¬ O3 A2 := S3.bo A2 (.inr rfl)
  have hbh : ∀ c, G.hd = some c → G.B c ∧ G.B G.hc := fun c ec => ⟨(S.hn c ec).1.1, (S.hn c ec).1.2.1⟩
  have S4 : SR (G.at fun c => G.B c ∨ c = A) z.2 σ H3 (fun c => O3 c ∨ c = A2) := SR.unB (G := G) (B := fun c => G.B c ∨ c = A) S3 nB2 fun c ec => ⟨.inl (hbh c ec).1, .inl (hbh c ec).2⟩
  have S5 : SR G z.2 σ H3 (fun c => (O3 c ∨ c = A2) ∨ c = A) := SR.unB (G := G) (B := G.B) S4 nB hbh
  have sp : Stp pu G.hd O H (fun c => (O3 c ∨ c = A2) ∨ c = A) H3 := by
    have n3 : ∀ c, H2 c = none → H1 c = none := fun c e => by
      cases e1 : H1 c with
      | none => rfl
      | some o =>
        by_cases hc : G.hd = some c
        · obtain ⟨_, _, _, _, _, _, y, _⟩ := S2.hn c hc
          rw [y] at e; cases e
        · rw [s2.pr c o e1 (.inl rfl) hc] at e; cases e
    have s1' : Stp pu G.hd O1 H1 (fun c => (O3 c ∨ c = A2) ∨ c = A) H3 := by
      refine ⟨fun c o e _ n => s3.pr c o (s2.pr c o e (.inl rfl) n) (.inl rfl) n, fun c z => ?_⟩
      rcases z with (z | z) | z
      · rcases s3.nw c z with z | z
        · exact (s2.nw c z.1).imp (fun z => z.1) id
        · exact .inr (n3 c z)
      · rcases s2.nw c (z ▸ ho2) with y | y
        · exact .inl y.1
        · exact .inr y
      · exact .inl (z ▸ ho)
    exact s1.trans s1' S5.hO
  have lv : ∀ (k : Nat) (d' : D), G.kd k = true → z.2[k]? = some (some d') → ∃ c, σ[k]? = some (some (.ref c)) ∧ O3 c := fun k d' hk e => by
    obtain ⟨v, e1, r⟩ := S3.val k d' e
    have hk' : (G.at fun c => (G.B c ∨ c = A) ∨ c = A2).kd k = true := hk
    rw [hk'] at r
    obtain ⟨c, rfl, oc, _⟩ := r
    exact ⟨c, e1, oc⟩
  have fF : ∀ c, G.F (fun c => (O3 c ∨ c = A2) ∨ c = A) c → (G.at fun c => (G.B c ∨ c = A) ∨ c = A2).F O3 c := fun c z => by
    rcases z with z | (z | z) | z
    · exact .inl (.inl (.inl z))
    · exact .inr z
    · exact .inl (.inr z)
    · exact .inl (.inl (.inr z))
  have S6 := S5.putO (i := i) (a := A) (d := x.1) hi ⟨.inr rfl, ds, vs, ed, h3A, t1.mono fF⟩ fun k d' hk hkk e z => by
    obtain ⟨c, e1, oc⟩ := lv k d' hkk e
    rw [e1] at z
    cases z
    exact nA3 oc
  have S7 := S6.putO (i := j) (a := A2) (d := y.1) hj ⟨.inl (.inr rfl), ds2, vs2, ed2, h3A2, t2.mono fF⟩ fun k d' hk hkk e z => by
    by_cases ki : k = i
    · subst ki
      have hl : k < σ.length := by
        rcases Nat.lt_or_ge k σ.length with h | h
        · exact h
        · rw [List.getElem?_eq_none (by simpa using h)] at z; cases z
      rw [List.getElem?_set_self hl] at z
      cases z
      exact neA rfl
    · rw [List.getElem?_set_ne (Ne.symm ki)] at z e
      obtain ⟨c, e1, oc⟩ := lv k d' hkk e
      rw [e1] at z
      cases z
      exact nA32 oc
  have S8 := S7.putS (i := k) (v := u) (d := z.1) hk0 (ShR.mono fF r3)
  exact ⟨_, _, _, rfl, q _ H3 _ sp.weak S8⟩
end
end EV
/-! sorted(set(..)) of a list of tuples of whole numbers -/
namespace EV
open PySem PySem.Spec PyProof.Rows L2 RZ
def tupi? : List D → Option (List (List Int))
  | [] => some []
  | d :: r => match d with
    | .tup xs => (match ints? xs with | some k => (match tupi? r with | some ks => some (k :: ks) | none => none) | none => none)
    | _ => none
abbrev cd (k : List Int) : Int := TS.code 1000 k
def insC (k : List Int) : List (List Int) → List (List Int)
  | [] => [k]
  | x :: r => match decide (cd k < cd x) with
    | true => k :: x :: r
    | false => match decide (cd k = cd x) with
      | true => x :: r
      | false => x :: insC k r
def dsort : List (List Int) → List (List Int)
  | [] => []
  | k :: r => insC k (dsort r)
theorem cd_inj : ∀ {k l : List Int}, k.length = l.length → TS.Bd 1000 k → TS.Bd 1000 l → cd k = cd l → k = l
  | [], [], _, _, _, _ => rfl
  | a :: r, b :: q, hl, h1, h2, e => by
    have hl' : r.length = q.length := by simpa using hl
    rcases Int.lt_trichotomy a b with h | h | h
    · have := TS.code_lt hl' h1.tail h2.tail h
      unfold cd at e
      omega
    · subst h
      have : cd r = cd q := by
        have e' : a * 1000 ^ r.length + TS.code 1000 r = a * 1000 ^ q.length + TS.code 1000 q := e
        rw [hl'] at e'
        exact Int.add_left_cancel e'
      rw [cd_inj hl' h1.tail h2.tail this]
    · have := TS.code_lt hl'.symm h2.tail h1.tail h
      unfold cd at e
      omega
theorem insC_mem {k : List Int} : ∀ {l : List (List Int)} {x : List Int}, x ∈ insC k l → x = k ∨ x ∈ l
  | [], x, h => by simp [insC] at h; exact .inl h
  | y :: r, x, h => by
    unfold insC at h
    split at h
    · rcases List.mem_cons.mp h with h | h
      · exact .inl h
      · exact .inr h
    · split at h
      · exact .inr h
      · rcases List.mem_cons.mp h with h | h
        · exact .inr (by simp [h])
        · exact (insC_mem h).imp id fun z => by simp [z]
theorem insC_cov {k : List Int} : ∀ {l : List (List Int)}, (∃ x ∈ insC k l, cd x = cd k) ∧ ∀ y ∈ l, ∃ x ∈ insC k l, cd x = cd y
  | [] => ⟨⟨k, by simp [insC], rfl⟩, fun y hy => by simp at hy⟩
  | z :: r => by
    unfold insC
    split
    · exact ⟨⟨k, by simp, rfl⟩, fun y hy => ⟨y, by simp at hy ⊢; exact .inr hy, rfl⟩⟩
    · split
      · rename_i e
        exact ⟨⟨z, by simp, (of_decide_eq_true e).symm⟩, fun y hy => ⟨y, hy, rfl⟩⟩
      · obtain ⟨⟨x, hx, ex⟩, h2⟩ := insC_cov (k := k) (l := r)
        refine ⟨⟨x, by simp [hx], ex⟩, fun y hy => ?_⟩
        rcases List.mem_cons.mp hy with h | h
        · exact ⟨z, by simp, by rw [h]⟩
        · obtain ⟨w, hw, ew⟩ := h2 y h
          exact ⟨w, by simp [hw], ew⟩
theorem insC_sorted {k : List Int} : ∀ {l : List (List Int)}, l.Pairwise (fun a b => cd a < cd b) → (insC k l).Pairwise (fun a b => cd a < cd b)
  | [], _ => by simp [insC]
  | z :: r, h => by
    have hz := List.pairwise_cons.mp h
    unfold insC
    split
    · rename_i e
      have e := of_decide_eq_true e
      refine List.pairwise_cons.mpr ⟨fun y hy => ?_, h⟩
      rcases List.mem_cons.mp hy with q | q
      · rw [q]; exact e
      · exact Int.lt_trans e (hz.1 y q)
    · rename_i e
      have e := of_decide_eq_false e
      split
      · exact h
      · rename_i e2
        have e2 := of_decide_eq_false e2
        refine List.pairwise_cons.mpr ⟨fun y hy => ?_, insC_sorted hz.2⟩
        rcases insC_mem hy with q | q
        · rw [q]; omega
        · exact hz.1 y q
theorem dsort_sorted : ∀ {l : List (List Int)}, (dsort l).Pairwise (fun a b => cd a < cd b)
  | [] => List.Pairwise.nil
  | _ :: _ => insC_sorted dsort_sorted
theorem dsort_mem : ∀ {l : List (List Int)} {x : List Int}, x ∈ dsort l → x ∈ l
  | [], _, h => h
  | k :: r, x, h => by
    rcases insC_mem h with q | q
    · simp [q]
    · simp [dsort_mem q]
theorem dsort_cov : ∀ {l : List (List Int)} {x : List Int}, x ∈ l → ∃ y ∈ dsort l, cd y = cd x
  | k :: r, x, h => by
    obtain ⟨h1, h2⟩ := insC_cov (k := k) (l := dsort r)
    rcases List.mem_cons.mp h with q | q
    · rw [q]; exact h1
    · obtain ⟨y, hy, ey⟩ := dsort_cov q
      obtain ⟨w, hw, ew⟩ := h2 y hy
      exact ⟨w, hw, ew.trans ey⟩
/-- two lists that rise strictly and have the same codes -/
theorem uniq {α : Type} {f : α → Int} : ∀ {l m : List α}, (∀ x ∈ l, ∀ y ∈ m, f x = f y → x = y) → l.Pairwise (fun a b => f a < f b) → m.Pairwise (fun a b => f a < f b) → (∀ x ∈ l, x ∈ m) → (∀ x ∈ m, x ∈ l) → l = m
  | [], [], _, _, _, _, _ => rfl
  | [], y :: _, _, _, _, _, h => absurd (h y (by simp)) (by simp)
  | x :: _, [], _, _, _, h, _ => absurd (h x (by simp)) (by simp)
  | x :: l, y :: m, hi, h1, h2, h3, h4 => by
    have p1 := List.pairwise_cons.mp h1
    have p2 := List.pairwise_cons.mp h2
    have exy : x = y := by
      rcases List.mem_cons.mp (h3 x (by simp)) with e | e
      · exact e
      · rcases List.mem_cons.mp (h4 y (by simp)) with e2 | e2
        · exact e2.symm
        · have a := p2.1 x e
          have b := p1.1 y e2
          omega
    subst exy
    have hl : ∀ z ∈ l, z ∈ m := fun z hz => by
      rcases List.mem_cons.mp (h3 z (by simp [hz])) with e | e
      · subst e; exact absurd (p1.1 z hz) (Int.lt_irrefl _)
      · exact e
    have hm : ∀ z ∈ m, z ∈ l := fun z hz => by
      rcases List.mem_cons.mp (h4 z (by simp [hz])) with e | e
      · subst e; exact absurd (p2.1 z hz) (Int.lt_irrefl _)
      · exact e
    rw [uniq (fun a ha b hb => hi a (by simp [ha]) b (by simp [hb])) p1.2 p2.2 hl hm]
def bdB (d : Nat) (k : List Int) : Bool := Nat.beq k.length d && k.all fun x => decide (0 ≤ x) && decide (x < 1000)
theorem bdB_ok {d : Nat} {k : List Int} (h : bdB d k = true) : k.length = d ∧ TS.Bd 1000 k := by
  unfold bdB at h
  rw [Bool.and_eq_true] at h
  refine ⟨Nat.eq_of_beq_eq_true h.1, fun m hm => ?_⟩
  have := List.all_eq_true.mp h.2 m hm
  rw [Bool.and_eq_true, decide_eq_true_eq, decide_eq_true_eq] at this
  exact this
def wid : List (List Int) → Nat
  | [] => 1
  | k :: _ => k.length
def oSSet : D → Option D
  | .lst xs => (match tupi? xs with
    | some ks => (match Nat.blt ks.length 64 && Nat.ble 1 (wid ks) && ks.all (bdB (wid ks)) with | true => some (.lst ((dsort ks).map fun k => .tup (k.map D.int))) | false => none)
    | none => none)
  | _ => none
section
variable {K : PySem.W.Frag} {H : Hp} {F : Addr → Prop}
theorem ints_shs : ∀ k : List Int, Shs K H F (k.map V.int) (k.map D.int)
  | [] => .nil
  | _ :: k => .cons (.int _) (ints_shs k)
theorem tups_of : ∀ {vs : List V} {ds : List D} {ks : List (List Int)}, tupi? ds = some ks → Shs K H F vs ds → ∃ ps : List (Addr × List Int), vs = ps.map (fun p => V.ref p.1) ∧ ks = ps.map (·.2) ∧ ∀ p ∈ ps, SqT K H p.1 (p.2.map V.int)
  | _, [], ks, e, .nil => ⟨[], rfl, (Option.some.inj e).symm, fun p hp => by simp at hp⟩
  | _, d :: ds, ks, e, .cons h hs => by
    unfold tupi? at e
    cases d with
    | tup xs =>
      dsimp only at e
      cases e1 : ints? xs with
      | none => rw [e1] at e; cases e
      | some k =>
        rw [e1] at e
        cases e2 : tupi? ds with
        | none => rw [e2] at e; cases e
        | some ks2 =>
          rw [e2] at e
          cases e
          obtain ⟨ps, rfl, rfl, hp⟩ := tups_of e2 hs
          cases h with
          | @tup a vs _ h1 h2 =>
            rw [ints_of e1 h2] at h1
            exact ⟨(a, k) :: ps, rfl, rfl, fun p hm => by
              rcases List.mem_cons.mp hm with z | z
              · rw [z]; exact h1
              · exact hp p z⟩
    | _ => cases e
theorem shs_tups : ∀ {L : List (Addr × List Int)}, (∀ p ∈ L, SqT K H p.1 (p.2.map V.int)) → Shs K H F (L.map fun p => V.ref p.1) ((L.map (·.2)).map fun k => D.tup (k.map D.int))
  | [], _ => .nil
  | p :: L, h => .cons (.tup (h p (by simp)) (ints_shs _)) (shs_tups fun q hq => h q (by simp [hq]))
end
theorem u_sset {G : Cn} {P : Program} {w : World} : U1 G .ow oSSet (fun x H Q => rSetOfT G.K P w [x] H fun y H' => rSortedT G.K P w [y] H' Q) := by
  intro st1 σ H1 O1 v d0 d Q S1 r1 e q
  cases d0 with
  | lst xs =>
    unfold oSSet at e
    dsimp only at e
    cases e1 : tupi? xs with
    | none => rw [e1] at e; cases e
    | some ks =>
      rw [e1] at e
      dsimp only at e
      cases c : (Nat.blt ks.length 64 && Nat.ble 1 (wid ks) && ks.all (bdB (wid ks))) with
      | false => rw [c] at e; cases e
      | true =>
        rw [c] at e
        cases e
        simp only [Bool.and_eq_true] at c
        obtain ⟨⟨c1, c2⟩, c3⟩ := c
        have c1 : ks.length < 64 := by
          have := Nat.le_of_ble_eq_true c1
          omega
        have c2 := Nat.le_of_ble_eq_true c2
        obtain ⟨a, vs, rfl, hr, hs⟩ := VR.lst (st := st1) (σ := σ) (O := O1) r1
        obtain ⟨ps, rfl, rfl, hp⟩ := tups_of e1 hs
        have bd : ∀ p ∈ ps, p.2.length = wid (ps.map (·.2)) ∧ TS.Bd 1000 p.2 := fun p hm => bdB_ok (List.all_eq_true.mp c3 _ (List.mem_map.mpr ⟨p, hm, rfl⟩))
        refine ⟨a, ps, rfl, .inl hr, hp, by simpa using c1, fun b L hb hsub hcov => ?_⟩
        have hpL : ∀ p ∈ L, SqT G.K (upd H1 b (SetTO P w b L)) p.1 (p.2.map V.int) := fun p hm => sqt_upd hb (hp p (hsub p hm))
        refine ⟨b, L, wid (ps.map (·.2)), 1000, rfl, upd_same, hpL, c2, fun p hm => bd p (hsub p hm), fun L' l pm nd _ pw hl => ?_⟩
        have inL : ∀ p ∈ L', p ∈ ps := fun p hm => hsub p (pm.mem_iff.mp hm)
        have inj : ∀ x ∈ ps.map (·.2), ∀ y ∈ ps.map (·.2), cd x = cd y → x = y := fun x hx y hy exy => by
          obtain ⟨p, hp1, rfl⟩ := List.mem_map.mp hx
          obtain ⟨p', hp2, rfl⟩ := List.mem_map.mp hy
          exact cd_inj ((bd p hp1).1.trans (bd p' hp2).1.symm) (bd p hp1).2 (bd p' hp2).2 exy
        have mem' : ∀ x ∈ L'.map (·.2), x ∈ ps.map (·.2) := fun x hx => by
          obtain ⟨p, hp1, rfl⟩ := List.mem_map.mp hx
          exact List.mem_map.mpr ⟨p, inL p hp1, rfl⟩
        have st' : (L'.map (·.2)).Pairwise (fun a b => cd a < cd b) := by
          have h1 : (L'.map (·.2)).Pairwise (fun a b => cd a ≤ cd b) := List.pairwise_map.mpr pw
          have h2 := h1.and nd
          refine List.Pairwise.imp_of_mem (fun {x y} hx hy h => ?_) h2
          rcases Int.lt_or_eq_of_le h.1 with z | z
          · exact z
          · exact absurd (inj x (mem' x hx) y (mem' y hy) z) h.2
        have eq : L'.map (·.2) = dsort (ps.map (·.2)) := by
          refine uniq (f := cd) (fun x hx y hy => inj x (mem' x hx) y (dsort_mem hy)) st' dsort_sorted (fun x hx => ?_) fun x hx => ?_
          · obtain ⟨y, hy, ey⟩ := dsort_cov (mem' x hx)
            rw [← inj y (dsort_mem hy) x (mem' x hx) ey]
            exact hy
          · obtain ⟨p, hp1, rfl⟩ := List.mem_map.mp (dsort_mem hx)
            have := hcov p hp1
            obtain ⟨p', hp2, e2⟩ := List.mem_map.mp this
            rw [← e2]
            exact List.mem_map.mpr ⟨p', pm.mem_iff.mpr hp2, rfl⟩
        have S2 : SR G st1 σ (upd H1 b (SetTO P w b L)) O1 := S1.new hb
        have h3 : Shs G.K (upd H1 b (SetTO P w b L)) (G.F O1) (L'.map fun p => V.ref p.1) ((dsort (ps.map (·.2))).map fun k => D.tup (k.map D.int)) := by
          rw [← eq]
          exact shs_tups fun p hm => hpL p (pm.mem_iff.mp hm)
        obtain ⟨s3, S3, r3⟩ := end_lst S2 hl h3
        exact q _ _ _ ((Stp.new hb).trans s3 S3.hO) S3 r3
  | _ => cases e
theorem w_sset {G : Cn} {P : Program} {w : World} {m : ME} (σ : L2.St) (H : Hp) (Q : VK) (q : T G .ow true (m1 oSSet m) σ H Q) : tCB (rSortedT G.K P w) (L2.tCons (tCB (rSetOfT G.K P w) (L2.tCons (T G .br true m) L2.tNil)) L2.tNil) σ H Q := w_1 u_sset σ H Q q
end EV
/-! set(..) of a list of whole numbers -/
namespace L2
open PySem PySem.Spec PyProof.Rows
/-- an empty set -/
abbrev eSet (w : World) : Obj := { cls := .type "set", dict := none, data := .set #[] 0 (.fresh 0 0 (!w.params.followText "set-order")) }
section
variable {P : Program} {w : World} {A : Around} {E : Value → Shared → Prop} {s : Shared}
/-- what the making leaves -/
def MadeSet (w : World) (s : Shared) (is : List Int) (t : Shared) : Prop := ∃ g k c, t = { s with heap := g, toks := k } ∧ SetR w g s.heap.objs.size (fun j => decide (j ∈ is)) c ∧ c ≤ is.length ∧ ∀ b o, s.heap.get? b = some o → g.get? b = some o
set_option maxHeartbeats 3200000 in
theorem setOfInts {l : Addr} {zs : Array Value} (is : List Int) {Q : Value → Shared → Prop} (hA : A.handled = none) (hL : s.heap.IsList l zs) (hI : IntsAre zs.toList is) (hB : is.length + 1 < scanBound)
    (h : ∀ t, MadeSet w s is t → Q (.ref s.heap.objs.size) t) : wpAny (model P w) A (call (.type "set") [.ref l]) Q E s := by
  have hZ : zs.size = is.length := by rw [← IntsAre.length hI, Array.length_toList]
  obtain ⟨c, tl, hM⟩ := F.called_set.mro; have hK := F.called_set.made; have hU := F.called_set.sub
  refine wpAny_call (codeAny_of_tree ?_); show wpAny _ _ (callAny (.type "set") _) _ _ _
  refine wpAny_pure ⟨Code.quiet_builtin _ (by decide +kernel), codeAny_builtin F.entry_type_call ?_⟩; rw [Around.under_plain (weight_type_call_type "set" [.ref l] []) rfl]
  have u1 := F.called_set.notType; have u2 := F.called_set.canCreate; have u3 := F.typeCall_set_1 (.ref l)
  repeat (any_goals (first | assumption | wp_step))
  refine codeAny_mono (code_set_led1 (.ref l) (E := E) (Q₁ := fun o t => o = .ref s.heap.objs.size ∧ t = { s with heap := s.heap.push (eSet w) }) ⟨rfl, rfl⟩) fun r t hr => ?_
  cases r with
  | error e => exact hr
  | ok fl =>
    cases fl with
    | ret obj =>
      obtain ⟨rfl, rfl⟩ := hr
      have gS : (s.heap.push (eSet w)).get? s.heap.objs.size = some (eSet w) := Heap.get?_push_size _ rfl
      have tS : Shared.TypeIs { s with heap := s.heap.push (eSet w) } (.ref s.heap.objs.size) "set" := ⟨_, gS, rfl⟩
      have i1 := F.called_set.init.lookup; have i2 := F.called_set.init.bind (.ref s.heap.objs.size)
      repeat (any_goals (first | assumption | wp_step))
      refine codeAny_mono (codeAny_call_builtin (R := wants (fun r t => r = .none ∧ MadeSet w s is t) E) F.called_set.init.plain F.entry_set_init (check_set_init_1 tS ?_)) fun r t hr => ?_
      · obtain ⟨⟨oc, od, odt, osl⟩, hO, hC, nl, hD⟩ := hL
        simp only at hC hD; subst hC; subst hD
        have gL : (s.heap.push (eSet w)).get? l = some { cls := .type "list", dict := od, data := .seq zs nl, slots := osl } := Heap.get?_push_of_some _ hO
        have j1 := F.sub_list_set; have j2 := F.sub_list_frozenset; have j3 : (Value.type "list" == Value.type "dict") = false := by decide
        have lL : (s.heap.push (eSet w)).IsList l zs := ⟨_, gL, rfl, nl, rfl⟩
        unfold Builtin.«set.__init__» noKeywords Builtin.Frozenset.updateFrom; generalize hP : pyIter = PI
        wp_walk; subst hP
        refine wpAny_pyIter_list lL (wpAny_bind (wpAny_runValue ?_))
        have lt : l < s.heap.objs.size := Heap.lt_size hO
        have sz : (s.heap.push (eSet w)).objs.size = s.heap.objs.size + 1 := Heap.size_push ..
        have n1 : l ≠ (s.heap.push (eSet w)).objs.size := by rw [sz]; exact Nat.ne_of_lt (Nat.lt_succ_of_lt lt)
        have n2 : s.heap.objs.size ∉ [(s.heap.push (eSet w)).objs.size, l] := by
          rw [sz]; simp only [List.mem_cons, List.not_mem_nil, or_false, not_or]; exact ⟨Nat.ne_of_lt (Nat.lt_succ_self _), Nat.ne_of_gt lt⟩
        have val : ∀ (i : Nat) (v : Value), zs[i]? = some v → ∃ k t, is[i]? = some k ∧ v = .int k t := fun i v hv => by
          have hi : i < is.length := by rw [← hZ]; exact (Array.getElem?_eq_some_iff.mp hv).1
          obtain ⟨t, e⟩ := PyProof.Rows.IntsAre.int_at hI i v (by rw [Array.getElem?_toList]; exact hv)
          exact ⟨is[i], t, List.getElem?_eq_getElem hi, by rw [e, List.getD_eq_getElem?_getD, List.getElem?_eq_getElem hi]; rfl⟩
        refine set_update_ints ((Walks.list (by simp [hA]) _ l n1 zs).toS) s.heap.objs.size n2 is hZ hB val (zs.size - 0) 0 _ (by omega) (Nat.zero_le _) ⟨⟨_, Heap.get?_push_size _ rfl, rfl, rfl⟩, (lL.push _)⟩ ?f1 ?f2
        case f1 => exact ⟨0, Nat.le_refl 0, setR_new_at (Heap.get?_push_of_some _ gS)⟩
        case f2 =>
          intro t c' mv le R
          obtain ⟨g, gs, dr, tk, os⟩ := t
          have e1 : gs = s.gens := mv.gens; have e2 : dr = s.drawn := mv.drawn; have e3 : os = s.os := mv.os
          subst e1; subst e2; subst e3
          show wpAny _ _ _ _ _ _
          refine wpAny_pure ?_; show wpAny _ _ (ret Value.none) _ _ _
          rw [hZ] at le
          refine wpAny_pure ⟨rfl, g, tk, c', rfl, R, le, fun b o e => ?_⟩
          have lb := Heap.lt_size e
          exact mv.heap b o (by rw [sz]; simp only [List.mem_cons, List.not_mem_nil, or_false, not_or]; exact ⟨Nat.ne_of_lt lb, Nat.ne_of_lt (Nat.lt_succ_of_lt lb)⟩) (Heap.get?_push_of_some _ (Heap.get?_push_of_some _ e))
      · cases r with
        | error e => exact hr
        | ok f2 =>
          cases f2 with
          | ret r =>
            obtain ⟨rfl, m⟩ := hr
            repeat (any_goals (first | assumption | wp_step))
            exact h _ m
          | _ => exact hr.elim
    | _ => exact hr.elim
end
end L2
namespace EV
open PySem PySem.Spec PyProof.Rows L2 RZ
def rSetI (K : PySem.W.Frag) (w : World) : List V → Hp → VK → Prop := fun xs H Q => ∃ (l : Addr) (is : List Int), xs = [V.ref l] ∧ SqL K H l (is.map V.int) ∧ is.length < 64 ∧ ∀ a c, H a = none → c ≤ is.length → Q (.ref a) (upd H a (SetO w a (fun j => decide (j ∈ is)) c))
section
variable {X : Cx} {T : Value} {r r' : List V → Hp → VK → Prop}
theorem cr_or {u : Value} (h : CallR X u r) (h' : CallR X u r') : CallR X u (fun xs H Q => r xs H Q ∨ r' xs H Q) := fun pins s σ H xs us Q I rv q => q.elim (h pins s σ H xs us Q I rv) (h' pins s σ H xs us Q I rv)
theorem cr_setI (hc : X.calm = true) : CallR X (.type "set") (rSetI X.K X.w) := by
  intro pins s σ H xs us Q I rv h
  obtain ⟨l, is, rfl, hl, hlen, q⟩ := h
  rw [Vals.ref1 rv]
  obtain ⟨its, iv, pl, hz⟩ := I.list hl
  refine L2.setOfInts is (I.ok.hd hc) pl.isList (by simpa using intsAre_vals iv) (by unfold scanBound; omega) fun t m => ?_
  obtain ⟨g, k, c, rfl, R, le, kp⟩ := m
  exact ⟨.ref s.heap.objs.size, _, I.laid (t' := k) kp (Nat.le_refl _) (setO_new R), rfl, q _ c (I.hok.fresh (Nat.le_refl _)) le⟩
end
def insI (k : Int) : List Int → List Int
  | [] => [k]
  | x :: r => match decide (k < x) with
    | true => k :: x :: r
    | false => match decide (k = x) with
      | true => x :: r
      | false => x :: insI k r
def isort : List Int → List Int
  | [] => []
  | k :: r => insI k (isort r)
theorem insI_mem {k : Int} : ∀ {l : List Int} {x : Int}, x ∈ insI k l ↔ x = k ∨ x ∈ l
  | [], x => by simp [insI]
  | y :: r, x => by
    unfold insI
    split
    · simp
    · split
      · rename_i e
        have e := of_decide_eq_true e
        subst e
        simp
      · rw [List.mem_cons, insI_mem (l := r), List.mem_cons]
        constructor
        · rintro (h | h | h) <;> simp [h]
        · rintro (h | h | h) <;> simp [h]
theorem insI_sorted {k : Int} : ∀ {l : List Int}, l.Pairwise (· < ·) → (insI k l).Pairwise (· < ·)
  | [], _ => by simp [insI]
  | z :: r, h => by
    have hz := List.pairwise_cons.mp h
    unfold insI
    split
    · rename_i e
      have e := of_decide_eq_true e
      refine List.pairwise_cons.mpr ⟨fun y hy => ?_, h⟩
      rcases List.mem_cons.mp hy with q | q
      · rw [q]; exact e
      · exact Int.lt_trans e (hz.1 y q)
    · rename_i e
      have e := of_decide_eq_false e
      split
      · exact h
      · rename_i e2
        have e2 := of_decide_eq_false e2
        refine List.pairwise_cons.mpr ⟨fun y hy => ?_, insI_sorted hz.2⟩
        rcases insI_mem.mp hy with q | q
        · rw [q]; omega
        · exact hz.1 y q
theorem isort_ok : ∀ {l : List Int}, (isort l).Pairwise (· < ·) ∧ ∀ x, x ∈ isort l ↔ x ∈ l
  | [] => ⟨List.Pairwise.nil, fun x => Iff.rfl⟩
  | k :: r => ⟨insI_sorted isort_ok.1, fun x => by
    show x ∈ insI k (isort r) ↔ _
    rw [insI_mem, isort_ok.2 x, List.mem_cons]⟩
/-- whole numbers, or tuples of them -/
def oSSet2 (d : D) : Option D := match d with
  | .lst xs => (match ints? xs with
    | some is => (match Nat.blt is.length 64 with | true => some (.lst ((isort is).map D.int)) | false => none)
    | none => oSSet (.lst xs))
  | _ => none
theorem u_sset2 {G : Cn} {P : Program} {w : World} : U1 G .ow oSSet2 (fun x H Q => (fun vs H Q => rSetOfT G.K P w vs H Q ∨ rSetI G.K w vs H Q) [x] H fun y H' => rSortedT G.K P w [y] H' Q ∨ rSortedSet w [y] H' Q) := by
  intro st1 σ H1 O1 v d0 d Q S1 r1 e q
  cases d0 with
  | lst xs =>
    cases ei : ints? xs with
    | some is =>
      simp only [oSSet2, ei] at e
      cases c : Nat.blt is.length 64 with
      | false => simp only [c] at e; cases e
      | true =>
        simp only [c] at e
        cases e
        have c1 : is.length < 64 := by
          have := Nat.le_of_ble_eq_true c
          omega
        obtain ⟨a, vs, rfl, hr, hs⟩ := r1.lst
        rw [ints_of ei hs] at hr
        refine .inr ⟨a, is, rfl, .inl hr, c1, fun b n hb hn => .inr ⟨b, _, n, rfl, upd_same, by omega, fun ns l pw mem _ hl => ?_⟩⟩
        have eq : ns = isort is := uniq (f := id) (fun x _ y _ e => e) pw isort_ok.1 (fun x hx => (isort_ok.2 x).mpr (by simpa using (mem x).mp hx)) fun x hx => (mem x).mpr (by simpa using (isort_ok.2 x).mp hx)
        have S2 : SR G st1 σ (upd H1 b (SetO w b (fun j => decide (j ∈ is)) n)) O1 := S1.new hb
        rw [eq]
        obtain ⟨s3, S3, r3⟩ := end_lst S2 hl (ints_shs (isort is))
        exact q _ _ _ ((Stp.new hb).trans s3 S3.hO) S3 r3
    | none =>
      have e' : oSSet (.lst xs) = some d := by
        simp only [oSSet2, ei] at e
        exact e
      have z := u_sset (P := P) (w := w) S1 r1 e' q
      obtain ⟨l, ks, h1, h2, h3, h4, h5⟩ := z
      exact .inl ⟨l, ks, h1, h2, h3, h4, fun a L ha hs hc => .inl (h5 a L ha hs hc)⟩
  | _ => cases e
end EV
/-! list + list: a new list -/
namespace EV
open PySem PySem.Spec PyProof.Rows L2 RZ
def rCatL : R2 := fun x y H Q => ∃ l b xs zs, x = .ref l ∧ y = .ref b ∧ Rd H l (.lst xs) ∧ Rd H b (.lst zs) ∧ xs.length + zs.length ≤ sizeLine ∧ ∀ p, H p = none → Q (.ref p) (upd H p (.lst (xs ++ zs)))
theorem op_catL {X : Cx} : OpR X (binaryOp .Add) rCatL := by
  intro pins s σ H x y v u Q I rx ry h
  obtain ⟨l, b, xs, zs, rfl, rfl, h1, h2, hz, q⟩ := h
  cases rx
  cases ry
  obtain ⟨z1, its, n, r, e1⟩ := h1.ok I.hok
  obtain ⟨z2, its2, n2, r2, e2⟩ := h2.ok I.hok
  have k1 := r.length
  have k2 := r2.length
  refine PySem.P.add_list e1 e2 ?_ (by rw [List.size_toArray, List.size_toArray]; omega)
  rw [show its.toArray ++ its2.toArray = (its ++ its2).toArray by simp]
  exact ⟨.ref _, _, I.lnew (t' := s.toks) (r.append r2) (by rw [List.length_append]; omega), rfl, q _ I.fresh⟩
def oCatL (d e : D) : Option D := match d with
  | .lst xs => (match e with | .lst ys => (match lenOk (xs.length + ys.length) with | true => some (.lst (xs ++ ys)) | false => none) | _ => none)
  | _ => none
theorem u_catL {G : Cn} : U2 G .ow oCatL rCatL := by
  intro st σ H O v w d e d' Q S hv hw ho q
  cases d with
  | lst xs =>
    cases e with
    | lst ys =>
      simp only [oCatL] at ho
      cases c : lenOk (xs.length + ys.length) with
      | false => rw [c] at ho; cases ho
      | true =>
        rw [c] at ho
        cases ho
        obtain ⟨a, vs, rfl, h1, h2⟩ := hv.lst
        obtain ⟨b, ws, rfl, h3, h4⟩ := hw.lst
        refine ⟨a, b, vs, ws, rfl, rfl, h1, h3, by rw [h2.length, h4.length]; exact Nat.le_of_lt (lenOk_le c), fun p hp => ?_⟩
        obtain ⟨s3, S3, r3⟩ := end_lst S hp (h2.append h4)
        exact q _ _ _ s3 S3 r3
    | _ => cases ho
  | _ => cases e <;> cases ho
end EV
/-! len(set(..)) of a list of whole numbers, of tuples of whole numbers; a dict display of one pair, never looked into; list + list, shared -/
namespace L2
open PySem PySem.Spec PyProof.Rows
def rLenS (P : Program) (w : World) : List V → Hp → VK → Prop := fun xs H Q => ∃ (a : Addr), xs = [V.ref a] ∧ ((∃ (S : Int → Bool) (n : Nat), H a = some (SetO w a S n) ∧ n < 64 ∧ ∀ ks : List Int, ks.Nodup → (∀ k : Int, k ∈ ks ↔ S k = true) → Q (.int ks.length) H) ∨
  (∃ (L : List (Addr × List Int)), H a = some (SetTO P w a L) ∧ ((L.map (·.2)).Nodup → L.length < 64 → Q (.int L.length) H)))
section
variable {X : Cx}
theorem cr_lenS (hc : X.calm = true) : CallR X (.builtin "len") (rLenS X.prog X.w) := by
  intro pins s σ H xs us Q I r h
  obtain ⟨a, rfl, ⟨S, n, ha, hn, q⟩ | ⟨L, ha, q⟩⟩ := h
  · rw [Vals.ref1 r]
    obtain ⟨o, es, ep, t, ho, hex, hd, _, nd, mem, _, hf, hn2, _⟩ := setO_get I ha
    refine call_len_set ho hex hd hf (by omega) ⟨.int es.size, H, I.tok _, ⟨_, rfl⟩, ?_⟩
    have z := q _ nd fun k => (mem k).symm
    rw [List.length_map, Array.length_toList] at z
    exact z
  · rw [Vals.ref1 r]
    have R : SetT0 X.prog X.w s.heap a L := (I.hok a _ ha).1
    obtain ⟨es, ep, t, ⟨o, ho, hex, hd⟩, h1, h2, h3, h4, h5, h6, h7⟩ := R.ex
    have sz : es.size = L.length := by
      have h := congrArg List.length h1
      unfold rowsOf at h
      rw [Array.length_toList, List.length_map] at h
      exact h
    have hf : t.fits es.size = true := by
      have g1 := h2.sz
      rw [List.length_map] at g1
      unfold SetTable.fits SetTable.fill
      rw [h2.dm, Bool.and_eq_true, beq_iff_eq, decide_eq_true_eq]
      show t.place.size = es.size ∧ t.place.size + 0 ≤ t.mask
      omega
    refine call_len_set ho hex hd hf (by omega) ⟨.int es.size, H, I.tok _, ⟨_, rfl⟩, ?_⟩
    rw [sz]
    exact q h3 h7
end
end L2
namespace EV
open PySem PySem.Spec PyProof.Rows L2 RZ
def dd {α : Type} [DecidableEq α] : List α → List α
  | [] => []
  | x :: r => if x ∈ r then dd r else x :: dd r
theorem dd_mem {α : Type} [DecidableEq α] : ∀ {l : List α} {x : α}, x ∈ dd l ↔ x ∈ l
  | [], x => Iff.rfl
  | y :: r, x => by
    unfold dd
    split
    · rename_i h
      rw [dd_mem, List.mem_cons]
      exact ⟨.inr, fun z => by
        rcases z with z | z
        · rw [z]; exact h
        · exact z⟩
    · rw [List.mem_cons, List.mem_cons, dd_mem]
theorem dd_nodup {α : Type} [DecidableEq α] : ∀ {l : List α}, (dd l).Nodup
  | [] => List.nodup_nil
  | y :: r => by
    unfold dd
    split
    · exact dd_nodup
    · rename_i h
      exact List.nodup_cons.mpr ⟨fun z => h (dd_mem.mp z), dd_nodup⟩
theorem nodup_le {α : Type} [DecidableEq α] : ∀ {l m : List α}, l.Nodup → (∀ x ∈ l, x ∈ m) → l.length ≤ m.length
  | [], _, _, _ => Nat.zero_le _
  | x :: l, m, h, hs => by
    have h' := List.nodup_cons.mp h
    have hx := hs x (by simp)
    have := nodup_le (l := l) (m := m.erase x) h'.2 fun y hy => (List.mem_erase_of_ne (fun e => h'.1 (by rw [← e]; exact hy))).mpr (hs y (by simp [hy]))
    rw [List.length_erase_of_mem hx] at this
    have := List.length_pos_of_mem hx
    rw [List.length_cons]
    omega
theorem nodup_len {α : Type} [DecidableEq α] {l m : List α} (h1 : l.Nodup) (h2 : m.Nodup) (h : ∀ x, x ∈ l ↔ x ∈ m) : l.length = m.length := Nat.le_antisymm (nodup_le h1 fun x => (h x).mp) (nodup_le h2 fun x => (h x).mpr)
def oLSet (d : D) : Option D := match d with
  | .lst xs => (match ints? xs with
    | some is => (match Nat.blt is.length 64 with | true => some (.int (dd is).length) | false => none)
    | none => (match tupi? xs with
      | some ks => (match Nat.blt ks.length 64 with | true => some (.int (dd ks).length) | false => none)
      | none => none))
  | _ => none
theorem u_lset {G : Cn} {P : Program} {w : World} : U1 G .sh oLSet (fun x H Q => (fun vs H Q => rSetOfT G.K P w vs H Q ∨ rSetI G.K w vs H Q) [x] H fun y H' => rLenS P w [y] H' Q) := by
  intro st1 σ H1 O1 v d0 d Q S1 r1 e q
  cases d0 with
  | lst xs =>
    obtain ⟨a, vs, rfl, hr, hs⟩ := r1.lst
    cases ei : ints? xs with
    | some is =>
      simp only [oLSet, ei] at e
      cases c : Nat.blt is.length 64 with
      | false => simp only [c] at e; cases e
      | true =>
        simp only [c] at e
        cases e
        have c1 : is.length < 64 := by
          have := Nat.le_of_ble_eq_true c
          omega
        rw [ints_of ei hs] at hr
        refine .inr ⟨a, is, rfl, .inl hr, c1, fun b n hb hn => ⟨b, rfl, .inl ⟨_, n, upd_same, by omega, fun ks nd mem => ?_⟩⟩⟩
        have eq : ks.length = (dd is).length := nodup_len nd dd_nodup fun x => by rw [mem, dd_mem]; simp
        have S2 : SR G st1 σ (upd H1 b (SetO w b (fun j => decide (j ∈ is)) n)) O1 := S1.new hb
        rw [eq]
        exact q _ _ _ (Stp.new hb) S2 (.inl (.int _))
    | none =>
      simp only [oLSet, ei] at e
      cases et : tupi? xs with
      | none => simp only [et] at e; cases e
      | some ks =>
        simp only [et] at e
        cases c : Nat.blt ks.length 64 with
        | false => simp only [c] at e; cases e
        | true =>
          simp only [c] at e
          cases e
          have c1 : ks.length < 64 := by
            have := Nat.le_of_ble_eq_true c
            omega
          obtain ⟨ps, rfl, rfl, hp⟩ := tups_of et hs
          refine .inl ⟨a, ps, rfl, .inl hr, hp, by simpa using c1, fun b L hb hsub hcov => ⟨b, rfl, .inr ⟨L, upd_same, fun nd _ => ?_⟩⟩⟩
          have eq : L.length = (dd (ps.map (·.2))).length := by
            rw [← List.length_map (f := (·.2)) (as := L)]
            refine nodup_len nd dd_nodup fun x => ?_
            rw [dd_mem]
            constructor
            · intro hx
              obtain ⟨p, hp1, rfl⟩ := List.mem_map.mp hx
              exact List.mem_map.mpr ⟨p, hsub p hp1, rfl⟩
            · intro hx
              obtain ⟨p, hp1, rfl⟩ := List.mem_map.mp hx
              exact hcov p hp1
          have S2 : SR G st1 σ (upd H1 b (SetTO P w b L)) O1 := S1.new hb
          rw [eq]
          exact q _ _ _ (Stp.new hb) S2 (.inl (.int _))
  | _ => cases e
/-! {k: v}: a dict of one pair, shared, never looked into -/
def mDic (k m : ME) : ME := fun st => (k st).bind fun p => match p.1 with | .int _ => (m p.2).bind fun q => .ok (.dic, q.2) | _ => .bad
section
variable {K : PySem.W.Frag} {H : Hp} {F : Addr → Prop} {p : Addr} {kvs kvs' : List (Key × V)}
theorem rd_nd (hp : H p = some (.dK kvs)) {a : Addr} {u : HO} (h : Rd H a u) (hu : ∀ k, u ≠ .dK k) : Rd (upd H p (.dK kvs')) a u := by
  have ne : a ≠ p := by
    rintro rfl
    rcases h with h | ⟨o, h⟩
    · rw [hp] at h; cases h; exact hu _ rfl
    · rw [hp] at h; cases h
  rcases h with h | ⟨o, h⟩
  · exact .inl (by rw [upd_ne ne]; exact h)
  · exact .inr ⟨o, by rw [upd_ne ne]; exact h⟩
mutual
theorem Sh.updD (hp : H p = some (.dK kvs)) : ∀ {v : V} {d : D}, Sh K H F v d → Sh K (upd H p (.dK kvs')) F v d
  | _, _, .non => .non
  | _, _, .bl b => .bl b
  | _, _, .int i => .int i
  | _, _, .str x h => .str x h
  | _, _, .tup h hs => .tup (h.elim (fun q => .inl (rd_nd hp q fun _ e => nomatch e)) fun q => .inr q) (Shs.updD hp hs)
  | _, _, .lst h n hs => .lst (rd_nd hp h fun _ e => nomatch e) n (Shs.updD hp hs)
  | .ref a, _, .dic (kvs := k) h => by
    by_cases e : a = p
    · subst e; exact .dic (.inl upd_same)
    · refine .dic (kvs := k) ?_
      rcases h with h | ⟨o, h⟩
      · exact .inl (by rw [upd_ne e]; exact h)
      · exact .inr ⟨o, by rw [upd_ne e]; exact h⟩
theorem Shs.updD (hp : H p = some (.dK kvs)) : ∀ {v : List V} {d : List D}, Shs K H F v d → Shs K (upd H p (.dK kvs')) F v d
  | _, _, .nil => .nil
  | _, _, .cons h hs => .cons (Sh.updD hp h) (Shs.updD hp hs)
end
end
section
variable {G : Cn} {st : AS} {σ : L2.St} {H : Hp} {O : Addr → Prop} {p : Addr} {kvs kvs' : List (Key × V)}
theorem upd_lst (hp : H p = some (.dK kvs)) {a : Addr} {xs : List V} (h : H a = some (.lst xs)) : upd H p (.dK kvs') a = some (.lst xs) := by
  rw [upd_ne (fun e => by rw [e, hp] at h; cases h)]
  exact h
theorem SR.updD (S : SR G st σ H O) (hp : H p = some (.dK kvs)) : SR G st σ (upd H p (.dK kvs')) O where
  len := S.len
  val := fun i d e => by
    obtain ⟨v, e1, q⟩ := S.val i d e
    refine ⟨v, e1, ?_⟩
    cases hk : G.kd i with
    | true =>
      rw [hk] at q
      obtain ⟨b, rfl, ho, ds, vs, e2, e3, e4⟩ := q
      exact ⟨b, rfl, ho, ds, vs, e2, upd_lst hp e3, e4.updD hp⟩
    | false =>
      rw [hk] at q
      exact q.elim (fun z => .inl (z.updD hp)) .inr
  ap := S.ap
  tr := fun a z => by
    obtain ⟨xs, e⟩ := S.tr a z
    exact ⟨xs, upd_lst hp e⟩
  bo := S.bo
  hn := fun a e => by
    obtain ⟨b, i, l, m, n, cs, h3, h4, h5⟩ := S.hn a e
    exact ⟨b, i, l, m, n, cs, upd_lst hp h3, upd_lst hp h4, h5⟩
end
theorem pe_dic {X : Cx} {G : Cn} {ek ev : Expr} {pos : Pos} {k m : ME} (hk : PE X ek (T G .sh true k)) (hm : PE X ev (T G .sh true m)) : PE X (.Dict [some ek] [ev] pos) (T G .sh true (mDic k m)) :=
  PE.weak (pe_disp (pps_cons hk hm pps_nil) rfl rfl (by simp) (show 1 ≤ 15 by decide)) fun σ H Q q p np => by
    obtain ⟨st, O, S, q⟩ := q
    have S0 : SR G st σ (upd H p (.dK [])) O := S.new np
    refine ⟨st, O, S0, R.all_mono (fun x q v H1 O1 s1 S1 r1 => ?_) (R.all_bind q)⟩
    obtain ⟨d, st1⟩ := x
    cases d with
    | int i =>
      refine ⟨st1, O1, S1, R.all_mono (fun y q w H2 O2 s2 S2 r2 => ?_) (R.all_bind q)⟩
      have hv : v = .int i := by
        rcases r1 with h | ⟨e, _⟩
        · cases h; rfl
        · cases e
      subst hv
      have nh : G.hd ≠ some p := fun z => by
        obtain ⟨_, _, _, _, _, _, e, _⟩ := S.hn p z
        rw [np] at e; cases e
      have e1 : H1 p = some (.dK []) := s1.pr p _ upd_same (.inl rfl) nh
      have e2 : H2 p = some (.dK []) := s2.pr p _ e1 (.inl rfl) nh
      refine ⟨e2, [(Sum.inl i, w)], rfl, (show 1 ≤ 15 by decide), ?_⟩
      have S3 : SR G y.2 σ (upd H2 p (.dK (mergeK [] [(Sum.inl i, w)]))) O2 := S2.updD e2
      refine q _ _ O2 ⟨fun a o e _ n => ?_, fun a z => ?_⟩ S3 (.inl (.dic (.inl upd_same)))
      · have ne : a ≠ p := fun z => by rw [z, np] at e; cases e
        rw [upd_ne ne]
        exact s2.pr a o (s1.pr a o (by rw [upd_ne ne]; exact e) (.inl rfl) n) (.inl rfl) n
      · rcases s2.nw a z with z | z
        · rcases s1.nw a z with z | z
          · exact .inl z
          · by_cases e : a = p
            · rw [e, upd_same] at z; cases z
            · rw [upd_ne e] at z; exact .inr z
        · cases e3 : H a with
          | none => exact .inr rfl
          | some o =>
            by_cases ho : G.hd = some a
            · obtain ⟨_, _, _, _, _, _, e4, _⟩ := S1.hn a ho
              rw [z] at e4; cases e4
            · have ne : a ≠ p := fun z => by rw [z, np] at e3; cases e3
              have := s1.pr a o (by rw [upd_ne ne]; exact e3) (.inl rfl) ho
              rw [z] at this; cases this
    | _ => exact q.elim
/-! list + list, shared -/
def oAddL (d e : D) : Option D := match d with
  | .lst xs => (match e with | .lst ys => (match lenOk (xs.length + ys.length) with | true => some (.lst (xs ++ ys)) | false => none) | _ => none)
  | d => oAdd d e
theorem u_addL {G : Cn} : U2 G .sh oAddL (fun x y H Q => rCatL x y H Q ∨ (rI0 (fun i j => .int (i + j)) x y H Q ∨ (rCatA G.K x y H Q ∨ ∃ i j, x = .str i ∧ y = .str j ∧ i.length + j.length ≤ sizeLine ∧ Q (.str (i ++ j)) H))) := by
  intro st σ H O v w d e d' Q S hv hw ho q
  cases d with
  | lst xs =>
    cases e with
    | lst ys =>
      simp only [oAddL] at ho
      cases c : lenOk (xs.length + ys.length) with
      | false => rw [c] at ho; cases ho
      | true =>
        rw [c] at ho
        cases ho
        obtain ⟨a, vs, rfl, h1, h2⟩ := hv.lst
        obtain ⟨b, ws, rfl, h3, h4⟩ := hw.lst
        refine .inl ⟨a, b, vs, ws, rfl, rfl, h1, h3, by rw [h2.length, h4.length]; exact Nat.le_of_lt (lenOk_le c), fun p hp => ?_⟩
        refine q _ _ O (Stp.new hp) (S.new hp) (.inl (.lst (.inl upd_same) (fun z => ?_) (S.cars0 (Stp.new (o := .lst (vs ++ ws)) hp) (h2.append h4))))
        obtain ⟨xs, e⟩ := S.tr p z
        rw [hp] at e
        cases e
    | _ => cases ho
  | _ => exact .inr (u_add S hv hw ho q)
end EV
/-! enumerate over a tuple -/
namespace L2
open PySem PySem.Spec PyProof.Rows
set_option maxHeartbeats 1000000 in
theorem meets_enumerate_newT {v : Value} {o : Obj} {H : Heap → Prop} (B : Begins v o H) :
    Meets (Builtin.«enumerate.__new__» ⟨[.type "enumerate", v], []⟩) (fun _ R s => H s.heap ∧
      R (.ok (.ret (.ref (s.heap.push o).objs.size))) { s with heap := (s.heap.push o).push { cls := .type "enumerate", data := .fields #[.none, .bool false, .ref s.heap.objs.size, rawInt 0, .none, .none] } }) :=
  .of_wp fun prog w A R s h => by
    obtain ⟨hp, g, d, tk, os⟩ := s; obtain ⟨h1, h⟩ := h
    have hsub := sub_enumerate
    have q1 : ∀ {A' : Around} {E : Value → Shared → Prop} {Q : Value → Shared → Prop}, Q (.ref hp.objs.size) ⟨hp.push o, g, d, tk, os⟩ → wpAny (model prog w) A' (pyIter v) Q E ⟨hp, g, d, tk, os⟩ :=
      fun q => B.iter prog w _ _ ⟨hp, g, d, tk, os⟩ _ h1 q
    wp_walk using q1
    refine wpAny_stack_any fun st => wpAny_pure ?_
    split
    · rename_i c _ _ _ _ _
      cases (c == Value.type "enumerate")
      · wp_walk using q1
        exact ⟨_, rfl, h⟩
      · wp_walk using q1
        exact ⟨_, rfl, h⟩
    · wp_walk using q1
      exact ⟨_, rfl, h⟩
section
variable {prog : Program} {w : World} {A : Around} {E : Value → Shared → Prop} {s : Shared}
theorem enum_begins1 {v : Value} {o : Obj} {H : Heap → Prop} {Q : Value → Shared → Prop} (B : Begins v o H) (h1 : H s.heap)
    (h : ∀ h', IsEnum h' (s.heap.objs.size + 1) s.heap.objs.size 0 .none → h'.get? s.heap.objs.size = some o → h'.objs.size = s.heap.objs.size + 2 →
      (∀ b o, s.heap.get? b = some o → h'.get? b = some o) → Q (.ref (s.heap.objs.size + 1)) { s with heap := h' }) :
    wpAny (model prog w) A (call (.type "enumerate") [v]) Q E s := by
  refine callType_new F.called_enumerate (by decide) (F.typeCall_enumerate_1 _) (F.newCall_enumerate_1 _) (fun obj => F.args_object_init_2 obj _) F.entry_enumerate_new
    (meets_enumerate_newT B) ⟨h1, ?_⟩
  have hz : (s.heap.push o).objs.size = s.heap.objs.size + 1 := Heap.size_push ..
  show _ ∧ _
  rw [hz]
  have he : IsEnum ((s.heap.push o).push { cls := .type "enumerate", data := .fields #[.none, .bool false, .ref s.heap.objs.size, rawInt 0, .none, .none] }) (s.heap.objs.size + 1) s.heap.objs.size 0 .none := by
    have := Heap.get?_push_size (s.heap.push o) (o := { cls := .type "enumerate", data := .fields #[.none, .bool false, .ref s.heap.objs.size, rawInt 0, .none, .none] }) rfl
    rw [hz] at this; exact this
  refine ⟨⟨_, he, rfl⟩, h _ he (Heap.get?_push_of_some _ (Heap.get?_push_size _ B.free)) (by rw [Heap.size_push, hz]) fun b o x => Heap.get?_push_of_some _ (Heap.get?_push_of_some _ x)⟩
end
theorem enum_endT {prog : Program} {w : World} {A : Around} {E : Value → Shared → Prop} {s : Shared} {e it a : Addr} {items : Array Value} {k : Nat} {i : Int} {old : Value} {Q : Option Value → Shared → Prop}
    (hh : A.in1.handled = none) (he : IsEnum s.heap e it i old) (h1 : s.heap.IsTupleIter it a k) (h2 : s.heap.IsTuple a items) (hk : items.size ≤ k)
    (hQ : ∀ h', Heap.ExtBut it s.heap h' → Q none { s with heap := h' }) : wpAny (model prog w) A (pyNext (.ref e)) Q E s := by
  have hT : s.TypeIs (.ref e) "enumerate" := ⟨_, he, rfl⟩
  unfold pyNext
  refine wpAny_bind (wpAny_attempt (wpAny_callSpecial?_slot (name := Str.ofString "__next__") hT F.slot_enumerate_next
    (wpAny_call_entry F.slot_enumerate_next hT F.entry_enumerate_next ?_ (F.args_enumerate_next_1 _))))
  show wpAny _ _ (field (.ref e) 2 >>= _) _ _ _
  refine wpAny_bind (wpAny_field he rfl (x := .ref it) rfl ?_)
  refine wpAny_bind (wpAny_nextOf_tuple_end hh h1 h2 (by simp; exact hk) fun h' x he' hx' => ?_)
  obtain ⟨o, ho, hc⟩ := hx'
  refine wpAny_bind (wpAny_isInstance (T := "StopIteration") (b := true) ⟨o, ho, hc⟩ isSubtype_stop ?_)
  exact wpAny_pure (hQ _ he')
def IteT (K : PySem.W.Frag) (a : Addr) : It :=
  ⟨fun i H => ∃ (xs : List V) (x : V), SqT K H a xs ∧ xs[i]? = some x, fun i H v H' => ∃ T x, v = .ref T ∧ H T = none ∧ H' = upd H T (.tup [.int (i : Nat), x]) ∧ ∀ xs, SqT K H a xs → xs[i]? = some x, fun i H => ∃ xs : List V, SqT K H a xs ∧ xs.length ≤ i⟩
theorem turn_enumT {P : Program} {w : World} {K : PySem.W.Frag} {elts : List Expr} {kk : Nat} {tpos : Pos} (a e it : Addr) :
    Turn P w K (.Tuple elts kk tpos) (IteT K a) [e, it] e (fun i h => (∃ old, IsEnum h e it ((i : Nat) : Int) old) ∧ h.IsTupleIter it a i ∧ e ≠ it ∧ a ≠ it ∧ e ≠ a) where
  mem := by simp
  obj := fun i h st b hb => by
    obtain ⟨⟨old, he⟩, ⟨o, ho, hc, hd⟩, _⟩ := st
    have e' : b = e ∨ b = it := by simpa using hb
    rcases e' with z | z
    · rw [z]; exact ⟨_, he, fun v q => nomatch q⟩
    · rw [z]; exact ⟨o, ho, fun v q => by rw [hd] at q; cases q⟩
  keep := fun i h h' st k => let ⟨⟨old, he⟩, hi, hne⟩ := st; ⟨⟨old, k e (by simp) _ he⟩, hi.at fun o q => k it (by simp) o q, hne⟩
  item := by
    intro X hP hw hK hc i pins s σ H E I hf st hg
    subst hP hw hK
    obtain ⟨⟨old, he⟩, hit, hne, hai, hea⟩ := st
    obtain ⟨xs, x, hq, hx⟩ := hg
    obtain ⟨its, rv, p, hz⟩ := I.tuple hq
    obtain ⟨u, hu, ru⟩ := rv.get hx
    have hel : e < s.heap.objs.size := Heap.lt_size he
    have hil : it < s.heap.objs.size := by obtain ⟨_, q, _⟩ := hit; exact Heap.lt_size q
    have hlt : i < its.toArray.size := by
      have := (List.getElem?_eq_some_iff.mp hu).1
      simpa using this
    refine wpAny_pyNext_enum_itemD (Draws.tuple (prog := X.prog) (w := X.w) (A := X.A.in1) (show X.A.in1.handled = none from I.ok.hd hc) it a hai its.toArray) he ⟨hit, (show s.heap.IsTuple a its.toArray from p)⟩ hlt hne (by simp [hne, hea]) fun y h' tk hy ho hst hT hsz hk => ?_
    have ey : y = u := by
      have : its[i]? = some y := by simpa using hy
      rw [hu] at this
      exact (Option.some.inj this).symm
    subst ey
    refine ⟨_, rfl, wpAny_letOwnedTupleGo_enum (s := { s with heap := h', toks := tk + 1 }) ho fun h'' he' sb => ?_⟩
    have hT2 : h''.get? s.heap.objs.size = some { cls := .type "tuple", data := .seq #[.int i tk, y] } := (sb.2 _ (Nat.ne_of_gt hel)).trans hT
    have new : ObjOk X.prog X.w (upd H s.heap.objs.size (.tup [.int (i : Nat), x])) h'' s.heap.objs.size (.tup [.int (i : Nat), x]) :=
      ⟨by show 2 ≤ sizeLine; decide, [.int i tk, y], .cons ⟨_, rfl⟩ (.cons ru .nil), ⟨_, hT2, rfl, _, rfl⟩⟩
    have I1 : Inv X pins σ (upd H s.heap.objs.size (.tup [.int (i : Nat), x])) { s with heap := h'', toks := tk + 1 } :=
      I.turnedNew (ch := [e, it]) (fun b ob hb q => (sb.2 b (fun z => hb (by simp [z]))).trans (hk b ob (fun z => hb (by simp [z])) (fun z => hb (by simp [z])) q)) hf (Nat.le_refl _) new
    refine ⟨.ref s.heap.objs.size, _, I1, rfl, ⟨_, x, rfl, I.hok.fresh (Nat.le_refl _), rfl, fun ys hy => by rw [I.tuple_inj hy hq]; exact hx⟩, ⟨⟨y, ?_⟩, hst.1.at fun o q => (sb.2 it (Ne.symm hne)).trans q, hne, hai, hea⟩, fun b hb => ?_⟩
    · have e1 : ((i + 1 : Nat) : Int) = (i : Int) + 1 := by omega
      rw [e1]; exact he'
    · have hb' : b < s.heap.objs.size := by
        have e' : b = e ∨ b = it := by simpa using hb
        rcases e' with z | z
        · rw [z]; exact hel
        · rw [z]; exact hil
      rw [upd_ne (Nat.ne_of_lt hb')]
      exact (hf b hb).1
  done := by
    intro X hP hw hK hc i pins s σ H E I hf st hg
    subst hP hw hK
    obtain ⟨⟨old, he⟩, hit, hne, hai, hea⟩ := st
    obtain ⟨xs, hq, hx⟩ := hg
    obtain ⟨its, rv, p, hz⟩ := I.tuple hq
    obtain ⟨f0, f1, f2, f3, f4, f5⟩ := hf it (by simp)
    have hl := rv.length
    exact enum_endT (show X.A.in1.handled = none from I.ok.hd hc) he hit (show s.heap.IsTuple a its.toArray from p) (by simp; omega) fun h' eb => ⟨rfl, I.turned (t' := s.toks) (fun b o hb q => eb b o hb q) f0 f1 f3 f4 f5⟩
  self := fun A i s Q E st h => let ⟨⟨_, he⟩, _⟩ := st; wpAny_pyIter_enum he h
end L2
namespace L2
open PySem PySem.Spec PyProof.Rows
def iEnumT (K : PySem.W.Frag) (ta : TA) : TI := fun σ H R => ta σ H fun vs H1 => ∃ a xs, vs = [.ref a] ∧ ((SqL K H1 a xs ∧ R (Ite K a) H1) ∨ (SqT K H1 a xs ∧ R (IteT K a) H1))
theorem pi_enumT {X : Cx} {e : Expr} {ta : TA} {p pos tpos : Pos} {elts : List Expr} {kk : Nat} (hg : Gl X "enumerate") (hm : X.mg "enumerate" = none) (ha : PA X [e] ta) (hs : starEach [e] X.env = [(false, eval e X.env)] := by rfl) :
    PI X (.Tuple elts kk tpos) (.Call (.Name "enumerate" p) [e] [] pos) (iEnumT X.K ta) := by
  refine ⟨fun pins s σ H R I h => ?_⟩
  refine Call_ (ld_blt I hg hm boot_enumerate (PyProof.Rows.callWith_type1 (thn (ha.run pos pins s σ H _ I h) fun us s1 ⟨vs, H1, I1, r1, q1⟩ => ?_) hs rfl))
  obtain ⟨a, xs, ex, q1⟩ := q1
  subst ex
  cases r1 with
  | cons r rr =>
    cases rr
    cases r
    rcases q1 with ⟨hq, q⟩ | ⟨hq, q⟩
    · obtain ⟨its, rv, p', hz⟩ := I1.list hq
      refine call_enumerate_list p'.isList fun h' he hit hsz hk => wpAny_pyIter_enum he ?_
      have I2 : Inv X pins σ H1 { s1 with heap := h' } := I1.kept (t' := s1.toks) hk
      refine ⟨s1.heap.objs.size + 1, [s1.heap.objs.size + 1, s1.heap.objs.size], _, _, H1, rfl, I2, turn_enum a (s1.heap.objs.size + 1) s1.heap.objs.size, ⟨⟨.none, he⟩, hit, Nat.succ_ne_self _⟩, fun b hb => ?_, q⟩
      have e' : b = s1.heap.objs.size + 1 ∨ b = s1.heap.objs.size := by simpa using hb
      have hle : s1.heap.objs.size ≤ b := by
        rcases e' with z | z
        · rw [z]; exact Nat.le_add_right _ _
        · rw [z]; exact Nat.le_refl _
      exact I1.fpOk hle (I1.hok.fresh hle)
    · obtain ⟨its, rv, p', hz⟩ := I1.tuple hq
      have hT : s1.heap.IsTuple a its.toArray := p'
      have hal : a < s1.heap.objs.size := by obtain ⟨_, q, _⟩ := hT; exact Heap.lt_size q
      refine enum_begins1 (begins_tuple a its.toArray) hT fun h' he hit hsz hk => wpAny_pyIter_enum he ?_
      have I2 : Inv X pins σ H1 { s1 with heap := h' } := I1.kept (t' := s1.toks) hk
      refine ⟨s1.heap.objs.size + 1, [s1.heap.objs.size + 1, s1.heap.objs.size], _, _, H1, rfl, I2, turn_enumT a (s1.heap.objs.size + 1) s1.heap.objs.size, ⟨⟨.none, he⟩, ⟨_, hit, rfl, rfl⟩, Nat.succ_ne_self _, Nat.ne_of_lt hal, Nat.ne_of_gt (Nat.lt_succ_of_lt hal)⟩, fun b hb => ?_, q⟩
      have e' : b = s1.heap.objs.size + 1 ∨ b = s1.heap.objs.size := by simpa using hb
      have hle : s1.heap.objs.size ≤ b := by
        rcases e' with z | z
        · rw [z]; exact Nat.le_add_right _ _
        · rw [z]; exact Nat.le_refl _
      exact I1.fpOk hle (I1.hok.fresh hle)
end L2
namespace EV
open PySem PySem.Spec PyProof.Rows L2
section
variable {X : Cx} {G : Cn} {pu : Bool}
theorem it_enumT {H : Hp} {O : Addr → Prop} {a : Addr} {vs : List V} {xs : List D} (ha : SqT G.K H a vs) (hx : Shs G.K H (G.F O) vs xs) : ItOk G false (IteT G.K a) (enumD 0 xs) H O := by
  refine ⟨fun B H O => SqT G.K H a vs ∧ Shs G.K H ((G.at B).F O) vs xs, ⟨ha, hx⟩, ?_, ?_, ?_, ?_⟩
  · rintro B st σ H O H' O' ⟨h1, h5⟩ S sp
    exact ⟨stabT (G := G.at B) S sp h1, S.cars0 sp h5⟩
  · rintro B i st σ H O ⟨h1, h5⟩ S
    refine ⟨fun hi => ?_, fun hi => ⟨vs, h1, by rw [enumD_len] at hi; rw [h5.length]; exact hi⟩⟩
    rw [enumD_len] at hi
    obtain ⟨v, e1, r1⟩ := h5.get (List.getElem?_eq_getElem hi)
    refine ⟨⟨vs, v, h1, e1⟩, ?_⟩
    rintro x H' ⟨A, x1, ex, hA, eH, f1⟩
    have g1 := f1 vs h1
    rw [e1] at g1
    cases g1
    refine ⟨_, enumD_get (k := 0) (List.getElem?_eq_getElem hi), yld_pair S (.int _) r1 hA ex ?_⟩
    rw [Int.zero_add]
    exact eH
  · rintro B A st σ H O ⟨h1, h5⟩ S hA
    exact ⟨sqt_upd hA h1, shs_add hA h5⟩
  · rintro B A zs H O ⟨h1, h5⟩ hB hA
    exact ⟨sqt_set hA h1, shs_set (.inl hB) hA h5⟩
def sEnumT (m : ME) : MI := fun st => (m st).bind fun p => match p.1 with | .lst xs => .ok (enumD 0 xs, p.2) | .tup xs => .ok (enumD 0 xs, p.2) | _ => .bad
theorem i_enumT {a : Expr} {m : ME} {p pos tpos : Pos} {elts : List Expr} {kk : Nat} (hK : X.K = G.K) (hg : Gl X "enumerate") (hm : X.mg "enumerate" = none) (ha : PE X a (T G .sh pu m)) (hs : notStar a = true) :
    PI X (.Tuple elts kk tpos) (.Call (.Name "enumerate" p) [a] [] pos) (TSrc G pu false (sEnumT m)) :=
  PI.weak (pi_enumT hg hm (pa_cons ha pa_nil (star_of hs)) (star_of hs)) fun σ H Z q => by
  obtain ⟨st, O, S, q⟩ := q
  refine ⟨st, O, S, R.all_mono (fun p q v H1 O1 s1 S1 r1 => ?_) (R.all_bind q)⟩
  obtain ⟨d, st1⟩ := p
  cases d with
  | lst xs =>
    rcases r1 with r1 | ⟨z, _⟩
    · cases r1 with
      | lst hr hf hss =>
        rw [hK]
        exact ⟨_, _, rfl, .inl ⟨.inl hr, q _ H1 O1 s1 S1 (it_enum hr hf hss)⟩⟩
    · cases z
  | tup xs =>
    rcases r1 with r1 | ⟨z, _⟩
    · cases r1 with
      | tup hr hss =>
        rw [hK]
        exact ⟨_, _, rfl, .inr ⟨hr, q _ H1 O1 s1 S1 (it_enumT hr hss)⟩⟩
    · cases z
  | _ => exact q.elim
end
end EV
/-! code as a tree of one's own, what it means, whether it is a given text -/
namespace EV
open PySem PySem.Spec PyProof.Rows L2 RZ
/-! several names at once; a value that is dropped -/
def setAll : List Nat → List D → AS → Option AS
  | [], [], st => some st
  | i :: is, d :: ds, st => setAll is ds (st.set i (some d))
  | _, _, _ => none
def sPar (is : List Nat) (l : ML) : MS := fun st => (l st).bind fun x => match setAll is x.1 x.2 with | some st' => .ok (.nx st') | none => .bad
/-- all slots but these are forgotten -/
def maskA (ks : List Nat) : Nat → AS → AS
  | _, [] => []
  | i, x :: st => (match ks.contains i with | true => x | false => none) :: maskA ks (i + 1) st
theorem mask_len {ks : List Nat} : ∀ {st : AS} {i : Nat}, (maskA ks i st).length = st.length
  | [], _ => rfl
  | _ :: st, i => congrArg (· + 1) (mask_len (st := st) (i := i + 1))
theorem mask_get {ks : List Nat} {d : D} : ∀ {st : AS} {i j : Nat}, (maskA ks i st)[j]? = some (some d) → st[j]? = some (some d)
  | [], _, _, e => by cases e
  | x :: st, i, 0, e => by
    unfold maskA at e
    cases h : ks.contains i with
    | true => rw [h] at e; exact e
    | false => rw [h] at e; cases e
  | _ :: st, i, j + 1, e => by
    have := mask_get (st := st) (i := i + 1) (j := j) (by unfold maskA at e; simpa using e)
    simpa using this
def sFgt (ks : List Nat) (m : MS) : MS := fun st => m (maskA ks 0 st)
def sDrp (m : ME) : MS := fun st => (m st).bind fun x => .ok (.nx x.2)
section
variable {X : Cx} {G : Cn} {ro : Bool} {pu : Bool}
theorem w_fgt {ks : List Nat} {m : MS} (Dn : Ends) (σ : L2.St) (H : Hp) (q : TSm G ro (sFgt ks m) Dn σ H) : TSm G ro m Dn σ H := by
  obtain ⟨st, O, S, q⟩ := q
  exact ⟨maskA ks 0 st, O, S.less (by rw [mask_len]; exact S.len) fun j d' e => ⟨mask_get e, rfl⟩, q⟩
theorem w_par2 {i j : Nat} {l : ML} (hi : G.kd i = false) (hj : G.kd j = false) (Dn : Ends) (σ : L2.St) (H : Hp) (q : TSm G ro (sPar [i, j] l) Dn σ H) : tPar i j (TL G pu l) Dn σ H := by
  obtain ⟨st, O, S, q⟩ := q
  refine ⟨st, O, S, R.all_mono (fun x q vs H1 O1 s1 S1 r1 => ?_) (R.all_bind q)⟩
  obtain ⟨ds, st1⟩ := x
  cases r1 with
  | nil => exact q.elim
  | cons a r1 =>
    cases r1 with
    | nil => exact q.elim
    | cons b r1 =>
      cases r1 with
      | cons _ _ => exact q.elim
      | nil => exact ⟨_, _, rfl, q _ H1 O1 s1.weak ((S1.putS hi a).putS hj b)⟩
theorem w_par3 {i j k : Nat} {l : ML} (hi : G.kd i = false) (hj : G.kd j = false) (hk : G.kd k = false) (Dn : Ends) (σ : L2.St) (H : Hp) (q : TSm G ro (sPar [i, j, k] l) Dn σ H) : tPar3 i j k (TL G pu l) Dn σ H := by
  obtain ⟨st, O, S, q⟩ := q
  refine ⟨st, O, S, R.all_mono (fun x q vs H1 O1 s1 S1 r1 => ?_) (R.all_bind q)⟩
  obtain ⟨ds, st1⟩ := x
  cases r1 with
  | nil => exact q.elim
  | cons a r1 =>
    cases r1 with
    | nil => exact q.elim
    | cons b r1 =>
      cases r1 with
      | nil => exact q.elim
      | cons c r1 =>
        cases r1 with
        | cons _ _ => exact q.elim
        | nil => exact ⟨_, _, _, rfl, q _ H1 O1 s1.weak (((S1.putS hi a).putS hj b).putS hk c)⟩
theorem w_drp {m : ME} (Dn : Ends) (σ : L2.St) (H : Hp) (q : TSm G ro (sDrp m) Dn σ H) : tDrop (T G .sh pu m) Dn σ H := by
  obtain ⟨st, O, S, q⟩ := q
  exact ⟨st, O, S, R.all_mono (fun x q v H1 O1 s1 S1 r1 => q σ H1 O1 s1.weak S1) (R.all_bind q)⟩
/-- a test of a comparison -/
theorem w_tst {m : ME} (σ : L2.St) (H : Hp) (Q : Bool → Hp → Prop) (q : TB G true (tVal m) σ H Q) : T G .sh true m σ H (fun x H' => ∃ k, x = .bl k ∧ Q k H') := by
  obtain ⟨st, O, S, q⟩ := q
  refine ⟨st, O, S, R.all_mono (fun p q v H1 O1 s1 S1 r1 => ?_) (R.all_bind q)⟩
  obtain ⟨d, st1⟩ := p
  cases d with
  | bl b => exact ⟨b, bl_sh (st := st1) (σ := σ) (O := O1) r1, q H1 O1 s1 S1⟩
  | _ => exact q.elim
theorem TL.any_pu {es : List Expr} {l : ML} (h : PA X es (TL G true l)) : PA X es (TL G pu l) := PA.weak h fun σ H Q q => by
  obtain ⟨st, O, S, q⟩ := q
  refine ⟨st, O, S, R.all_mono (fun p q v H' O' sp S' vr => q v H' O' ?_ S' vr) q⟩
  exact ⟨fun a o e _ n => sp.pr a o e (.inl rfl) n, sp.nw⟩
end
inductive BO | add | sub | mul | div | mod
inductive CO | lt | le | gt | ge | eq | ne | isIn | notIn
inductive UO | len | sum | all | any | tuple | int | abs | min | max
inductive C where
  | k (d : D) | g (j : Nat) | v (i : Nat) | b (i : Nat) | m (i : Nat)
  | bin (o : BO) (a b : C) | cmp (o : CO) (a b : C) | isN (f : Bool) (a : C) | isB (f : Bool) (a b : C) | chain (o p : CO) (a b c : C) | neg (a : C)
  | not (a : C) | and (a b : C) | or (a b : C) | one (a : C) | ifx (t a b : C)
  | nil | cons (a b : C) | tup (l : C) | lst (l : C)
  | ix (a i : C) | sl (own : Bool) (a lo hi : C) | rev (own : Bool) (a : C) | np | pt (a : C)
  | c1 (f : UO) (a : C) | list (a : C) | sorted (a : C) | isi (ts : List TN) (a : C) | fn (j : Nat) (l : C)
  | lc (own : List Nat) (p : Pat) (s c e : C) | yes
  | seq (a : C) | seqB (a : C) | r1 (a : C) | r2 (a b : C) | zip (a b : C)
  | pop (i : Nat) | popAt (i : Nat) (a : C)
  | skip | sq (a b : C) | pass | brk | cnt | ret (a : C) | retN | ifs (t a b : C) | asg (p : Pat) (a : C) | aso (i : Nat) (a : C) | for_ (s : C) (p : Pat) (b : C) | wh (n : Nat) (t b : C) | app (i : Nat) (a : C) | ext (i : Nat) (a : C) | nev | doc | par (is : List Nat) (l : C) | drp (a : C) | fgt (ks : List Nat) (a : C)
  | mm (f : Bool) (a b : C) | aug (f : Bool) (i : Nat) (a : C) | set (i : Nat) (k v : C) | enum (a : C) | parO (i j : Nat) (a b : C)
  | rep (a b : C) | augS (f : Bool) (i : Nat) (k v : C) | parSO (i j : Nat) (a b : C) | parOOS (i j k : Nat) (a b c : C) | sset (a : C) | cat (a b : C) | lset (a : C) | dic1 (a b : C)
structure Den where
  E : ME := fun _ => .bad
  T : MT := fun _ => .bad
  L : ML := fun _ => .bad
  O : MO := fun _ => .bad
  I : MI := fun _ => .bad
  M : MS := fun _ => .bad
def dE (m : ME) : Den := { E := m, T := tVal m }
def bop : BO → D → D → Option D
  | .add => oAddL | .sub => oSub | .mul => oMulT | .div => oDiv | .mod => oMod
def iop : CO → Int → Int → Bool
  | .lt, i, j => decide (i < j)
  | .le, i, j => decide (i ≤ j)
  | .gt, i, j => decide (j < i)
  | .ge, i, j => decide (j ≤ i)
  | _, _, _ => false
def cop : CO → D → D → Option D
  | .lt => oCmp (iop .lt) | .le => oCmp (iop .le) | .gt => oCmp (iop .gt) | .ge => oCmp (iop .ge)
  | .eq => oEqF id | .ne => oEqF (fun b => !b) | .isIn => oIn id | .notIn => oIn (fun b => !b)
def uop : UO → D → Option D
  | .len => oLen | .sum => oSum | .all => oAll | .any => oAny | .tuple => oTuple | .int => oInt | .abs => oAbs | .min => oMinL | .max => oMaxL
def mmop : Bool → D → D → Option D
  | true => oMin2 | false => oMax2
def augf : Bool → Int → Int → Int
  | true => fun i j => i + j | false => fun i j => i - j
def oIsB (f : Bool → Bool) : D → D → Option D
  | .bl b, .bl c => some (.bl (f (decide (b = c))))
  | _, _ => none
theorem u_isB {G : Cn} {f : Bool → Bool} : U2 G .sh (oIsB f) (fun x y H Q => ∃ a b : Bool, x = .bl a ∧ y = .bl b ∧ Q (.bl (f (decide (a = b)))) H) := by
  intro st σ H O v w d e d' Q S hv hw ho q
  cases d with
  | bl b =>
    cases e with
    | bl c =>
      cases ho
      exact ⟨b, c, hv.bl, hw.bl, q _ H O Stp.refl S (.inl (.bl _))⟩
    | _ => cases ho
  | _ => cases e <;> cases ho
def bId (f : Bool) : Bool → Bool := match f with | true => id | false => fun b => !b
def den (φ : Nat → List D → R D) (κ : Nat → D) : C → Den
  | .k d => dE (mK d)
  | .g j => dE (mK (κ j))
  | .v i => dE (mV i)
  | .b i => dE (mV i)
  | .m i => dE (mM i)
  | .bin o a b => dE (m2 (bop o) (den φ κ a).E (den φ κ b).E)
  | .cmp o a b => dE (m2 (cop o) (den φ κ a).E (den φ κ b).E)
  | .isN f a => dE (m1 (oIsN (bId f)) (den φ κ a).E)
  | .isB f a b => dE (m2 (oIsB (bId f)) (den φ κ a).E (den φ κ b).E)
  | .chain o p a b c => dE (mChain (iop o) (iop p) (den φ κ a).E (den φ κ b).E (den φ κ c).E)
  | .neg a => dE (m1 oNeg (den φ κ a).E)
  | .not a => { E := mNot (den φ κ a).E, T := tNot (den φ κ a).T }
  | .and a b => { E := mAnd (den φ κ a).E (den φ κ b).E, T := tAnd (den φ κ a).T (den φ κ b).T }
  | .or a b => { E := mOr (den φ κ a).E (den φ κ b).E, T := tOr (den φ κ a).T (den φ κ b).T }
  | .one a => { E := (den φ κ a).E, T := (den φ κ a).T }
  | .ifx t a b => { E := mIf (den φ κ t).T (den φ κ a).E (den φ κ b).E }
  | .nil => { L := lNil }
  | .cons a b => { L := lCons (den φ κ a).E (den φ κ b).L }
  | .tup l => dE (mTup (den φ κ l).L)
  | .lst l => dE (mLst (den φ κ l).L)
  | .ix a i => dE (m2 oIx (den φ κ a).E (den φ κ i).E)
  | .sl own a lo hi => dE (mSl own (den φ κ a).E (den φ κ lo).O (den φ κ hi).O)
  | .rev own a => dE (m1 (oRev own) (den φ κ a).E)
  | .np => { O := mNo }
  | .pt a => { O := mPart (den φ κ a).E }
  | .c1 f a => dE (m1 (uop f) (den φ κ a).E)
  | .list a => dE (m1 oList (den φ κ a).E)
  | .sorted a => dE (m1 oSort (den φ κ a).E)
  | .isi ts a => dE (m1 (oIsi ts) (den φ κ a).E)
  | .fn j l => dE (mCall (φ j) (den φ κ l).L)
  | .lc own p s c e => dE (mLc (den φ κ s).I p (den φ κ c).T (den φ κ e).E own)
  | .yes => { T := tYesM }
  | .seq a => { I := sSeq (den φ κ a).E }
  | .seqB a => { I := sSeq (den φ κ a).E }
  | .r1 a => { I := sR1 (den φ κ a).E }
  | .r2 a b => { I := sR2 (den φ κ a).E (den φ κ b).E }
  | .zip a b => { I := sZip (den φ κ a).E (den φ κ b).E }
  | .pop i => dE (mPop i)
  | .popAt i a => dE (mPopAt i (den φ κ a).E)
  | .skip => { M := sSkip }
  | .sq a b => { M := sSq (den φ κ a).M (den φ κ b).M }
  | .pass => { M := sSkip }
  | .brk => { M := sBrk }
  | .cnt => { M := sCnt }
  | .ret a => { M := sRet (den φ κ a).E }
  | .retN => { M := sRet (mK .non) }
  | .ifs t a b => { M := sIfS (den φ κ t).T (den φ κ a).M (den φ κ b).M }
  | .asg p a => { M := sAs p (den φ κ a).E }
  | .aso i a => { M := sAo i (den φ κ a).E }
  | .for_ s p b => { M := sFor (den φ κ s).I p (den φ κ b).M }
  | .wh n t b => { M := sWh n (den φ κ t).T (den φ κ b).M }
  | .app i a => { M := sApp i (den φ κ a).E }
  | .ext i a => { M := sExt i (den φ κ a).E }
  | .nev => { M := sNev }
  | .doc => { M := sSkip }
  | .par is l => { M := sPar is (den φ κ l).L }
  | .drp a => { M := sDrp (den φ κ a).E }
  | .fgt ks a => { M := sFgt ks (den φ κ a).M }
  | .mm f a b => dE (m2 (mmop f) (den φ κ a).E (den φ κ b).E)
  | .aug f i a => { M := sAug (augf f) i (den φ κ a).E }
  | .set i k v => { M := sSet i (den φ κ k).E (den φ κ v).E }
  | .enum a => { I := sEnumT (den φ κ a).E }
  | .sset a => dE (m1 oSSet2 (den φ κ a).E)
  | .lset a => dE (m1 oLSet (den φ κ a).E)
  | .dic1 a b => dE (mDic (den φ κ a).E (den φ κ b).E)
  | .cat a b => dE (m2 oCatL (den φ κ a).E (den φ κ b).E)
  | .rep a b => dE (m2 oRepL (den φ κ a).E (den φ κ b).E)
  | .augS f i k v => { M := sAugS (augf f) i (den φ κ k).E (den φ κ v).E }
  | .parSO i j a b => { M := sParSO i j (den φ κ a).E (den φ κ b).E }
  | .parOOS i j k a b c => { M := sParOOS i j k (den φ κ a).E (den φ κ b).E (den φ κ c).E }
  | .parO i j a b => { M := sParO i j (den φ κ a).E (den φ κ b).E }
/-! what a piece of code hands on -/
structure Gm where
  N : List Str
  kd : Nat → Bool
  cons : List Str
  funs : List (Str × Nat × Bool)
def kdc (Γ : Gm) : C → Kd
  | .b _ => .br
  | .m _ => .ow
  | .lst _ => .ow
  | .list _ => .ow
  | .sorted _ => .ow
  | .rep _ _ => .ow
  | .sset _ => .ow
  | .cat _ _ => .ow
  | .sl own _ _ _ => kOf own
  | .rev own _ => kOf own
  | .lc .. => .ow
  | .ifx _ a b => match kdc Γ a with | .ow => (match kdc Γ b with | .ow => .ow | _ => .sh) | _ => .sh
  | .fn j _ => match Γ.funs[j]? with | some (_, _, ro) => kOf ro | none => .sh
  | .one a => kdc Γ a
  | _ => .sh
/-- pure: nothing that is owned is changed -/
def puc : C → Bool
  | .pop _ => false
  | .popAt .. => false
  | .cons a b => puc a && puc b
  | .fn _ l => puc l
  | .seq a => puc a
  | .enum a => puc a
  | _ => true
/-- the slots stay -/
def fixC : C → Bool
  | .m _ => false
  | .pop _ => false
  | .popAt .. => false
  | .bin _ a b => fixC a && fixC b
  | .cmp _ a b => fixC a && fixC b
  | .isN _ a => fixC a
  | .isB _ a b => fixC a && fixC b
  | .chain _ _ a b c => fixC a && fixC b && fixC c
  | .neg a => fixC a
  | .not a => fixC a
  | .and a b => fixC a && fixC b
  | .or a b => fixC a && fixC b
  | .one a => fixC a
  | .ifx t a b => fixC t && fixC a && fixC b
  | .cons a b => fixC a && fixC b
  | .tup l => fixC l
  | .lst l => fixC l
  | .ix a i => fixC a && fixC i
  | .sl _ a lo hi => fixC a && fixC lo && fixC hi
  | .rev _ a => fixC a
  | .pt a => fixC a
  | .c1 _ a => fixC a
  | .list a => fixC a
  | .sset a => fixC a
  | .lset a => fixC a
  | .dic1 a b => fixC a && fixC b
  | .sorted a => fixC a
  | .isi _ a => fixC a
  | .fn _ l => fixC l
  | .lc _ _ s _ _ => fixC s
  | .seq a => fixC a
  | .seqB a => fixC a
  | .r1 a => fixC a
  | .r2 a b => fixC a && fixC b
  | .zip a b => fixC a && fixC b
  | .mm _ a b => fixC a && fixC b
  | .rep a b => fixC a && fixC b
  | .cat a b => fixC a && fixC b
  | .enum a => fixC a
  | _ => true
/-! the slots stay where nothing is moved -/
section
theorem fix_ok {α : Type} {x : α} {st : AS} : (R.ok (x, st)).pall fun p => p.2 = st := rfl
theorem fix1 {op : D → Option D} {m : ME} (h : Fix m) : Fix (m1 op m) := fun st => R.pall_bind (R.pall_mono (fun p e => by
  cases op p.1 with
  | none => trivial
  | some d => exact e) (h st))
theorem fix2 {op : D → D → Option D} {m n : ME} (h : Fix m) (h2 : Fix n) : Fix (m2 op m n) := fun st => R.pall_bind (R.pall_mono (fun p e => R.pall_bind (R.pall_mono (fun q e2 => by
  cases op p.1 q.1 with
  | none => trivial
  | some d => exact e2.trans e) (h2 p.2))) (h st))
theorem fixV {m : ME} (h : Fix m) : Fix (tVal m) := fun st => R.pall_bind (R.pall_mono (fun p e => by
  obtain ⟨p1, p2⟩ := p
  cases p1 <;> first | exact e | trivial) (h st))
def FixD (d : Den) : Prop := Fix d.E ∧ Fix d.T ∧ Fix d.L ∧ Fix d.O ∧ Fix d.I
theorem fix_bad {α : Type} : Fix (fun _ => (R.bad : R (α × AS))) := fun _ => trivial
theorem fixD_E {m : ME} (h : Fix m) : FixD (dE m) := ⟨h, fixV h, fix_bad, fix_bad, fix_bad⟩
theorem fixB {α β : Type} {m : AS → R (α × AS)} {f : α × AS → R (β × AS)} (h : Fix m) (hf : ∀ p, (f p).pall fun q => q.2 = p.2) : Fix (fun st => (m st).bind f) := fun st => R.pall_bind (R.pall_mono (fun p e => R.pall_mono (fun q e2 => e2.trans e) (hf p)) (h st))
theorem pall_bad {α : Type} {p : α → Prop} : (R.bad : R α).pall p := trivial
theorem pall_any {α : Type} {p : α → Prop} (h : ∀ a, p a) : ∀ x : R α, x.pall p
  | .ok a => h a
  | .dr n k => fun d _ => pall_any h (k d)
  | .bad => trivial
theorem fixC_ok (φ : Nat → List D → R D) : ∀ c, fixC c = true → FixD (den φ κ c) := by
  intro c
  induction c with
  | k d => exact fun _ => fixD_E fun st => rfl
  | g j => exact fun _ => fixD_E fun st => rfl
  | v i => exact fun _ => fixD_E fun st => by unfold mV; cases getS st i <;> first | trivial | rfl
  | b i => exact fun _ => fixD_E fun st => by unfold mV; cases getS st i <;> first | trivial | rfl
  | bin o a b iha ihb =>
    intro h
    have h' := Bool.and_eq_true_iff.mp h
    exact fixD_E (fix2 (iha h'.1).1 (ihb h'.2).1)
  | cmp o a b iha ihb =>
    intro h
    have h' := Bool.and_eq_true_iff.mp h
    exact fixD_E (fix2 (iha h'.1).1 (ihb h'.2).1)
  | ix a b iha ihb =>
    intro h
    have h' := Bool.and_eq_true_iff.mp h
    exact fixD_E (fix2 (iha h'.1).1 (ihb h'.2).1)
  | cat a b iha ihb =>
    intro h
    have h' := Bool.and_eq_true_iff.mp h
    exact fixD_E (fix2 (iha h'.1).1 (ihb h'.2).1)
  | rep a b iha ihb =>
    intro h
    have h' := Bool.and_eq_true_iff.mp h
    exact fixD_E (fix2 (iha h'.1).1 (ihb h'.2).1)
  | mm f a b iha ihb =>
    intro h
    have h' := Bool.and_eq_true_iff.mp h
    exact fixD_E (fix2 (iha h'.1).1 (ihb h'.2).1)
  | enum a ih => exact fun h => ⟨fix_bad, fix_bad, fix_bad, fix_bad, fixB (ih h).1 fun p => by obtain ⟨p1, p2⟩ := p; cases p1 <;> first | trivial | rfl⟩
  | isN f a ih => exact fun h => fixD_E (fix1 (ih h).1)
  | isB f a b iha ihb =>
    intro h
    have h' := Bool.and_eq_true_iff.mp h
    exact fixD_E (fix2 (iha h'.1).1 (ihb h'.2).1)
  | neg a ih => exact fun h => fixD_E (fix1 (ih h).1)
  | c1 f a ih => exact fun h => fixD_E (fix1 (ih h).1)
  | list a ih => exact fun h => fixD_E (fix1 (ih h).1)
  | sset a ih => exact fun h => fixD_E (fix1 (ih h).1)
  | lset a ih => exact fun h => fixD_E (fix1 (ih h).1)
  | dic1 a b iha ihb =>
    intro h
    have h' := Bool.and_eq_true_iff.mp h
    refine fixD_E fun st => R.pall_bind (R.pall_mono (fun p e => ?_) ((iha h'.1).1 st))
    obtain ⟨p1, p2⟩ := p
    cases p1 with
    | int i => exact R.pall_bind (R.pall_mono (fun q e2 => e2.trans e) ((ihb h'.2).1 p2))
    | _ => trivial
  | sorted a ih => exact fun h => fixD_E (fix1 (ih h).1)
  | isi ts a ih => exact fun h => fixD_E (fix1 (ih h).1)
  | chain o p a b c iha ihb ihc =>
    intro h
    have h' := Bool.and_eq_true_iff.mp h
    have h2 := Bool.and_eq_true_iff.mp h'.1
    refine fixD_E fun st => R.pall_bind (R.pall_mono (fun x e => R.pall_bind (R.pall_mono (fun y e2 => ?_) ((ihb h2.2).1 x.2))) ((iha h2.1).1 st))
    obtain ⟨x1, x2⟩ := x
    obtain ⟨y1, y2⟩ := y
    cases x1 with
    | int i =>
      cases y1 with
      | int j =>
        show R.pall (match iop o i j with | true => _ | false => _) _
        cases iop o i j with
        | true =>
          refine R.pall_bind (R.pall_mono (fun z e3 => ?_) ((ihc h'.2).1 y2))
          obtain ⟨z1, z2⟩ := z
          cases z1 <;> first | exact (e3.trans e2).trans e | trivial
        | false => exact e2.trans e
      | _ => trivial
    | _ => trivial
  | not a ih =>
    intro h
    refine ⟨fun st => R.pall_bind (R.pall_mono (fun x e => ?_) ((ih h).1 st)), fun st => R.pall_bind (R.pall_mono (fun x e => e) ((ih h).2.1 st)), fix_bad, fix_bad, fix_bad⟩
    obtain ⟨x1, x2⟩ := x
    cases x1 <;> first | exact e | trivial
  | and a b iha ihb =>
    intro h
    have h' := Bool.and_eq_true_iff.mp h
    refine ⟨fun st => R.pall_bind (R.pall_mono (fun x e => ?_) ((iha h'.1).1 st)), fun st => R.pall_bind (R.pall_mono (fun x e => ?_) ((iha h'.1).2.1 st)), fix_bad, fix_bad, fix_bad⟩
    · obtain ⟨x1, x2⟩ := x
      cases x1 with
      | bl c => cases c with
        | true => exact R.pall_mono (fun z e2 => e2.trans e) ((ihb h'.2).1 x2)
        | false => exact e
      | _ => trivial
    · obtain ⟨x1, x2⟩ := x
      cases x1 with
      | true => exact R.pall_mono (fun z e2 => e2.trans e) ((ihb h'.2).2.1 x2)
      | false => exact e
  | or a b iha ihb =>
    intro h
    have h' := Bool.and_eq_true_iff.mp h
    refine ⟨fun st => R.pall_bind (R.pall_mono (fun x e => ?_) ((iha h'.1).1 st)), fun st => R.pall_bind (R.pall_mono (fun x e => ?_) ((iha h'.1).2.1 st)), fix_bad, fix_bad, fix_bad⟩
    · obtain ⟨x1, x2⟩ := x
      cases x1 with
      | bl c => cases c with
        | true => exact e
        | false => exact R.pall_mono (fun z e2 => e2.trans e) ((ihb h'.2).1 x2)
      | _ => trivial
    · obtain ⟨x1, x2⟩ := x
      cases x1 with
      | true => exact e
      | false => exact R.pall_mono (fun z e2 => e2.trans e) ((ihb h'.2).2.1 x2)
  | one a ih => exact fun h => ⟨(ih h).1, (ih h).2.1, fix_bad, fix_bad, fix_bad⟩
  | ifx t a b iht iha ihb =>
    intro h
    have h' := Bool.and_eq_true_iff.mp h
    have h2 := Bool.and_eq_true_iff.mp h'.1
    refine ⟨fun st => R.pall_bind (R.pall_mono (fun x e => ?_) ((iht h2.1).2.1 st)), fix_bad, fix_bad, fix_bad, fix_bad⟩
    obtain ⟨x1, x2⟩ := x
    cases x1 with
    | true => exact R.pall_mono (fun z e2 => e2.trans e) ((iha h2.2).1 x2)
    | false => exact R.pall_mono (fun z e2 => e2.trans e) ((ihb h'.2).1 x2)
  | nil => exact fun _ => ⟨fix_bad, fix_bad, fun st => rfl, fix_bad, fix_bad⟩
  | cons a b iha ihb =>
    intro h
    have h' := Bool.and_eq_true_iff.mp h
    exact ⟨fix_bad, fix_bad, fun st => R.pall_bind (R.pall_mono (fun x e => R.pall_bind (R.pall_mono (fun y e2 => e2.trans e) ((ihb h'.2).2.2.1 x.2))) ((iha h'.1).1 st)), fix_bad, fix_bad⟩
  | tup l ih => exact fun h => fixD_E (fixB (ih h).2.2.1 fun p => by cases (lenOk p.1.length && p.1.all (fun d => !isH d)) <;> first | trivial | rfl)
  | lst l ih => exact fun h => fixD_E (fixB (ih h).2.2.1 fun p => by cases (lenOk p.1.length && p.1.all (fun d => !isH d)) <;> first | trivial | rfl)
  | sl own a lo hi iha ihl ihh =>
    intro h
    have h' := Bool.and_eq_true_iff.mp h
    have h2 := Bool.and_eq_true_iff.mp h'.1
    refine fixD_E fun st => R.pall_bind (R.pall_mono (fun x e => R.pall_bind (R.pall_mono (fun y e2 => R.pall_bind (R.pall_mono (fun z e3 => ?_) ((ihh h'.2).2.2.2.1 y.2))) ((ihl h2.2).2.2.2.1 x.2))) ((iha h2.1).1 st))
    obtain ⟨x1, x2⟩ := x
    cases x1 with
    | lst xs => exact (e3.trans e2).trans e
    | tup xs => cases own with
      | true => trivial
      | false => exact (e3.trans e2).trans e
    | _ => trivial
  | rev own a ih => exact fun h => fixD_E (fix1 (ih h).1)
  | np => exact fun _ => ⟨fix_bad, fix_bad, fix_bad, fun st => rfl, fix_bad⟩
  | pt a ih => exact fun h => ⟨fix_bad, fix_bad, fix_bad, fixB (ih h).1 fun p => by obtain ⟨p1, p2⟩ := p; cases p1 <;> first | trivial | rfl, fix_bad⟩
  | fn j l ih => exact fun h => fixD_E (fixB (ih h).2.2.1 fun p => R.pall_bind (pall_any (fun r => rfl) _))
  | lc own p s c e ihs _ _ => exact fun h => fixD_E (fixB (ihs h).2.2.2.2 fun p => R.pall_bind (pall_any (fun r => rfl) _))
  | yes => exact fun _ => ⟨fix_bad, fun st => rfl, fix_bad, fix_bad, fix_bad⟩
  | seq a ih => exact fun h => ⟨fix_bad, fix_bad, fix_bad, fix_bad, fixB (ih h).1 fun p => by obtain ⟨p1, p2⟩ := p; cases p1 <;> first | trivial | rfl⟩
  | seqB a ih => exact fun h => ⟨fix_bad, fix_bad, fix_bad, fix_bad, fixB (ih h).1 fun p => by obtain ⟨p1, p2⟩ := p; cases p1 <;> first | trivial | rfl⟩
  | r1 a ih =>
    intro h
    refine ⟨fix_bad, fix_bad, fix_bad, fix_bad, fixB (ih h).1 fun p => ?_⟩
    obtain ⟨p1, p2⟩ := p
    cases p1 with
    | int i =>
      show R.pall (match fits62 i with | true => _ | false => _) _
      cases fits62 i <;> first | trivial | rfl
    | _ => trivial
  | r2 a b iha ihb =>
    intro h
    have h' := Bool.and_eq_true_iff.mp h
    refine ⟨fix_bad, fix_bad, fix_bad, fix_bad, fun st => R.pall_bind (R.pall_mono (fun x e => R.pall_bind (R.pall_mono (fun y e2 => ?_) ((ihb h'.2).1 x.2))) ((iha h'.1).1 st))⟩
    obtain ⟨x1, x2⟩ := x
    obtain ⟨y1, y2⟩ := y
    cases x1 with
    | int i =>
      cases y1 with
      | int j =>
        show R.pall (match fits62 i && fits62 j with | true => _ | false => _) _
        cases (fits62 i && fits62 j) <;> first | trivial | exact e2.trans e
      | _ => trivial
    | _ => trivial
  | zip a b iha ihb =>
    intro h
    have h' := Bool.and_eq_true_iff.mp h
    refine ⟨fix_bad, fix_bad, fix_bad, fix_bad, fun st => R.pall_bind (R.pall_mono (fun x e => R.pall_bind (R.pall_mono (fun y e2 => ?_) ((ihb h'.2).1 x.2))) ((iha h'.1).1 st))⟩
    obtain ⟨x1, x2⟩ := x
    obtain ⟨y1, y2⟩ := y
    cases x1 with
    | lst xs => cases y1 <;> first | trivial | exact e2.trans e
    | tup xs => cases y1 <;> first | trivial | exact e2.trans e
    | _ => trivial
  | m i => exact fun h => nomatch h
  | pop i => exact fun h => nomatch h
  | popAt i a _ => exact fun h => nomatch h
  | _ => exact fun _ => ⟨fix_bad, fix_bad, fix_bad, fix_bad, fix_bad⟩
end
end EV
/-! is this tree that text -/
namespace EV
open PySem PySem.Spec PyProof.Rows L2 RZ C8
inductive Tg | e (t : Bool) (x : Expr) | l (xs : List Expr) | o (x : Option Expr) | i (pl : Bool) (tg x : Expr) | s (ro : Bool) (x : Stmt) | b (ro : Bool) (xs : List Stmt)
def okN (x : Str) : Bool := !(x == ("__debug__" : Str)) && !(x == ("__classdict__" : Str))
def visB (sc : Scope) (x : Str) : Bool := (match sc.names.lookup x with | some .local => true | some .cell => true | some .free => true | _ => false) && okN x
def glB (sc : Scope) (x : Str) : Bool := (match sc.names.lookup x with | some .globalImplicit => true | _ => false) && okN x
def locB (sc : Scope) (fn : Str → Bool) (x : Str) : Bool := match sc.names.lookup x with | some .local => true | some .cell => fn x | _ => false
def lcl (sc : Scope) (x : Str) : Bool := match sc.names.lookup x with | some .local => true | _ => false
def noLc : Expr → Bool
  | .ListComp .. => false | .SetComp .. => false | .DictComp .. => false | _ => true
def isBO : Expr → Bool
  | .BoolOp .. => true | _ => false
def litB : D → Const → Bool
  | .int i, .int j => decide (i = j)
  | .bl b, .bool c => decide (b = c)
  | .non, .none => true
  | .str s, .str z => decide (s = z) && strOkB s
  | _, _ => false
def bopB : BO → Operator → Bool
  | .add, .Add => true | .sub, .Sub => true | .mul, .Mult => true | .div, .FloorDiv => true | .mod, .Mod => true | _, _ => false
def copB : CO → CmpOp → Bool
  | .lt, .Lt => true | .le, .LtE => true | .gt, .Gt => true | .ge, .GtE => true | .eq, .Eq => true | .ne, .NotEq => true | .isIn, .In => true | .notIn, .NotIn => true | _, _ => false
def icopB : CO → CmpOp → Bool
  | .lt, .Lt => true | .le, .LtE => true | .gt, .Gt => true | .ge, .GtE => true | _, _ => false
def isOp : Bool → CmpOp → Bool
  | true, .Is => true | false, .IsNot => true | _, _ => false
def unm : UO → Str
  | .len => "len" | .sum => "sum" | .all => "all" | .any => "any" | .tuple => "tuple" | .int => "int" | .abs => "abs" | .min => "min" | .max => "max"
def mmn : Bool → Str
  | true => "min" | false => "max"
def nbr (Γ : Gm) (c : C) : Bool := match kdc Γ c with | .br => false | _ => true
def isOw (Γ : Gm) (c : C) : Bool := match kdc Γ c with | .ow => true | _ => false
def isYes : C → Bool
  | .yes => true | _ => false
def onE (tg : Tg) (f : Expr → Bool) : Bool := match tg with | .e _ x => f x | _ => false
def onV (tg : Tg) (f : Expr → Bool) : Bool := match tg with | .e false x => f x | _ => false
def onS (tg : Tg) (f : Bool → Stmt → Bool) : Bool := match tg with | .s ro x => f ro x | _ => false
def nmB (N : List Str) (i : Nat) (x : Str) : Bool := decide (N[i]? = some x)
def ownP (N : List Str) (own : List Nat) : List (Str × Nat) := own.map fun i => ((N[i]?).getD "", i)
def chkP (Γ : Gm) (sc : Scope) (fn : Str → Bool) : Pat → Expr ⊕ List Expr → Bool
  | .nm i, t => (match t with | .inl (.Name x _) => nmB Γ.N i x && locB sc fn x && !Γ.kd i | _ => false)
  | .tp p, t => (match t with | .inl (.Tuple es _ _) => chkP Γ sc fn p (.inr es) && decide (plen p = some es.length) && es.all notStar | _ => false)
  | .nil, t => (match t with | .inr [] => true | _ => false)
  | .cons p q, t => (match t with | .inr (e :: es) => chkP Γ sc fn p (.inl e) && chkP Γ sc fn q (.inr es) && notStar e | _ => false)
def notTup : Expr → Bool
  | .Tuple es _ _ => !(es.length == 2 || es.length == 3) || es.all (foldedForSure 8)
  | _ => true
def anyN (sc : Scope) (t : Expr) : Bool := match t with | .Tuple ts _ _ => ts.any (fun x => match x with | .Name n _ => !(lcl sc n) | _ => true) | _ => false
def swN (sc : Scope) (t y : Expr) : Bool := notTup y || anyN sc t
def parB (Γ : Gm) (sc : Scope) (is : List Nat) (ts : List Expr) (es : List Expr) : Bool := (match is, ts, es with
  | [i, j], [.Name x px, .Name y py], [a, b] => nmB Γ.N i x && nmB Γ.N j y && lcl sc x && lcl sc y && !Γ.kd i && !Γ.kd j && !(i == j) && !(x == y) && !(y == x) && py.line == px.line
  | [i, j, k], [.Name x px, .Name y py, .Name z pz], [a, b, c] => nmB Γ.N i x && nmB Γ.N j y && nmB Γ.N k z && lcl sc x && lcl sc y && lcl sc z && !Γ.kd i && !Γ.kd j && !Γ.kd k && !(i == j) && !(i == k) && !(j == k)
     && decide ([x, y, z].eraseDups.length = 3) && py.line == px.line && pz.line == px.line
  | _, _, _ => false) && (match sc.kind with | .function => true | _ => false) && es.all notStar && !(es.all (foldedForSure 8)) && !(es.all (constantsAlone 8))
def chk (Γ : Gm) : C → Scope → (Str → Bool) → Tg → Bool
  | .k d, sc, fn, tg => onE tg fun x => match x with | .Constant c _ _ => litB d c | _ => false
  | .g j, sc, fn, tg => onE tg fun x => match x with | .Name x _ => decide (Γ.cons[j]? = some x) && glB sc x | _ => false
  | .v i, sc, fn, tg => onE tg fun x => match x with | .Name x _ => nmB Γ.N i x && visB sc x && !Γ.kd i | _ => false
  | .b i, sc, fn, tg => onE tg fun x => match x with | .Name x _ => nmB Γ.N i x && visB sc x && Γ.kd i | _ => false
  | .m i, sc, fn, tg => onE tg fun x => match x with | .Name x _ => nmB Γ.N i x && visB sc x && Γ.kd i | _ => false
  | .bin o a b, sc, fn, tg => onE tg fun x => match x with | .BinOp y op z _ => bopB o op && puc a && puc b && chk Γ a sc fn (.e false y) && chk Γ b sc fn (.e false z) | _ => false
  | .cmp o a b, sc, fn, tg => onE tg fun x => match x with | .Compare y [op] [z] _ => copB o op && !behindInMarks op z && puc a && puc b && chk Γ a sc fn (.e false y) && chk Γ b sc fn (.e false z) | _ => false
  | .isN f a, sc, fn, tg => onE tg fun x => match x with | .Compare y [op] [.Constant .none _ _] _ => isOp f op && puc a && chk Γ a sc fn (.e false y) | _ => false
  | .isB f a b, sc, fn, tg => onE tg fun x => match x with | .Compare y [op] [z] _ => isOp f op && !behindInMarks op z && puc a && puc b && chk Γ a sc fn (.e false y) && chk Γ b sc fn (.e false z) | _ => false
  | .chain o p a b c, sc, fn, tg => onE tg fun x => match x with
    | .Compare y [op, op'] [z, w] _ => icopB o op && icopB p op' && !lastMarks [op, op'] [z, w] && puc a && puc b && puc c && chk Γ a sc fn (.e false y) && chk Γ b sc fn (.e false z) && chk Γ c sc fn (.e false w)
    | _ => false
  | .neg a, sc, fn, tg => onE tg fun x => match x with | .UnaryOp .USub y _ => puc a && chk Γ a sc fn (.e false y) | _ => false
  | .not a, sc, fn, tg => match tg with
    | .e false (.UnaryOp .Not y _) => puc a && nbr Γ a && chk Γ a sc fn (.e false y)
    | .e true (.UnaryOp .Not y _) => chk Γ a sc fn (.e true y)
    | _ => false
  | .and a b, sc, fn, tg => match tg with
    | .e false (.BoolOp .And (y :: z :: r) p) => puc a && nbr Γ a && puc b && nbr Γ b && chk Γ a sc fn (.e false y) && chk Γ b sc fn (.e false (.BoolOp .And (z :: r) p))
    | .e true (.BoolOp .And (y :: z :: r) p) => chk Γ a sc fn (.e true y) && chk Γ b sc fn (.e true (.BoolOp .And (z :: r) p))
    | _ => false
  | .or a b, sc, fn, tg => match tg with
    | .e false (.BoolOp .Or (y :: z :: r) p) => puc a && nbr Γ a && puc b && nbr Γ b && chk Γ a sc fn (.e false y) && chk Γ b sc fn (.e false (.BoolOp .Or (z :: r) p))
    | .e true (.BoolOp .Or (y :: z :: r) p) => chk Γ a sc fn (.e true y) && chk Γ b sc fn (.e true (.BoolOp .Or (z :: r) p))
    | _ => false
  | .one a, sc, fn, tg => match tg with
    | .e false (.BoolOp _ [y] _) => puc a && chk Γ a sc fn (.e false y)
    | .e true (.BoolOp _ [y] _) => chk Γ a sc fn (.e true y)
    | _ => false
  | .ifx t a b, sc, fn, tg => onV tg fun x => match x with | .IfExp w y z _ => puc a && nbr Γ a && puc b && nbr Γ b && chk Γ t sc fn (.e true w) && chk Γ a sc fn (.e false y) && chk Γ b sc fn (.e false z) | _ => false
  | .nil, sc, fn, tg => match tg with | .l [] => true | _ => false
  | .cons a b, sc, fn, tg => match tg with | .l (y :: r) => notStar y && nbr Γ a && chk Γ a sc fn (.e false y) && chk Γ b sc fn (.l r) | _ => false
  | .tup l, sc, fn, tg => onE tg fun x => match x with | .Tuple es _ _ => puc l && chk Γ l sc fn (.l es) | _ => false
  | .lst l, sc, fn, tg => onE tg fun x => match x with | .List es _ => puc l && chk Γ l sc fn (.l es) | _ => false
  | .ix a i, sc, fn, tg => onE tg fun x => match x with | .Subscript y z _ => notSlice z && puc a && puc i && chk Γ a sc fn (.e false y) && chk Γ i sc fn (.e false z) | _ => false
  | .sl own a lo hi, sc, fn, tg => onE tg fun x => match x with | .Subscript y (.Slice l h none _) _ => puc a && chk Γ a sc fn (.e false y) && chk Γ lo sc fn (.o l) && chk Γ hi sc fn (.o h) | _ => false
  | .rev own a, sc, fn, tg => onE tg fun x => match x with | .Subscript y (.Slice none none (some (.UnaryOp .USub (.Constant (.int 1) _ _) _)) _) _ => puc a && chk Γ a sc fn (.e false y) | _ => false
  | .np, sc, fn, tg => match tg with | .o none => true | _ => false
  | .pt a, sc, fn, tg => match tg with | .o (some y) => puc a && chk Γ a sc fn (.e false y) | _ => false
  | .c1 f a, sc, fn, tg => onE tg fun x => match x with | .Call (.Name n _) [y] [] _ => decide (n = unm f) && glB sc n && notStar y && puc a && chk Γ a sc fn (.e false y) | _ => false
  | .list a, sc, fn, tg => onE tg fun x => match x with | .Call (.Name n _) [y] [] _ => decide (n = "list") && glB sc n && notStar y && puc a && chk Γ a sc fn (.e false y) | _ => false
  | .sorted a, sc, fn, tg => onE tg fun x => match x with | .Call (.Name n _) [y] [] _ => decide (n = "sorted") && glB sc n && notStar y && puc a && chk Γ a sc fn (.e false y) | _ => false
  | .isi ts a, sc, fn, tg => onE tg fun x => match x with
    | .Call (.Name n _) [y, .Name m _] [] _ => (match ts with | [t] => decide (n = "isinstance") && glB sc n && decide (m = t.name) && glB sc m && notStar y && puc a && chk Γ a sc fn (.e false y) | _ => false)
    | .Call (.Name n _) [y, .Tuple [.Name m _, .Name k _] _ _] [] _ => (match ts with | [t, u] => decide (n = "isinstance") && glB sc n && decide (m = t.name) && glB sc m && decide (k = u.name) && glB sc k && notStar y && puc a && chk Γ a sc fn (.e false y) | _ => false)
    | _ => false
  | .fn j l, sc, fn, tg => match tg with
    | .e t (.Call (.Name n _) (y :: es) [] _) => (match Γ.funs[j]? with
      | some (x, k, ro) => decide (n = x) && decide (k = (y :: es).length) && glB sc n && (y :: es).all notStar && (!t || puc l) && chk Γ l sc fn (.l (y :: es))
      | none => false)
    | _ => false
  | .lc own p s c e, sc, fn, tg => onE tg fun x => match x with
    | .ListComp elt [⟨tgx, iter, ifs, 0⟩] scope _ => blkC Γ.N sc scope (ownP Γ.N own) && notSet iter && puc s && chk Γ s sc fn (.i true tgx iter) && chkP Γ (relS scope sc) (fun x => scope.names.lookup x == some .cell) p (.inl tgx)
      && (match ifs with | [] => isYes c | [z] => chk Γ c (relS scope sc) (fun x => scope.names.lookup x == some .cell) (.e true z) | _ => false)
      && fixC c && fixC e && puc e && nbr Γ e && chk Γ e (relS scope sc) (fun x => scope.names.lookup x == some .cell) (.e false elt)
      && (pslots p).all (fun j => decide (j ∈ own)) && own.all (fun j => !Γ.kd j)
    | _ => false
  | .yes, sc, fn, tg => false
  | .seq a, sc, fn, tg => match tg with | .i _ _ x => nbr Γ a && chk Γ a sc fn (.e false x) | _ => false
  | .seqB a, sc, fn, tg => match tg with | .i true _ x => puc a && chk Γ a sc fn (.e false x) | _ => false
  | .r1 a, sc, fn, tg => match tg with | .i _ _ (.Call (.Name n _) [y] [] _) => decide (n = "range") && glB sc n && notStar y && puc a && nbr Γ a && chk Γ a sc fn (.e false y) | _ => false
  | .r2 a b, sc, fn, tg => match tg with | .i _ _ (.Call (.Name n _) [y, z] [] _) => decide (n = "range") && glB sc n && notStar y && notStar z && puc a && nbr Γ a && puc b && nbr Γ b && chk Γ a sc fn (.e false y) && chk Γ b sc fn (.e false z) | _ => false
  | .zip a b, sc, fn, tg => match tg with | .i _ (.Tuple _ _ _) (.Call (.Name n _) [y, z] [] _) => decide (n = "zip") && glB sc n && notStar y && notStar z && puc a && nbr Γ a && puc b && nbr Γ b && chk Γ a sc fn (.e false y) && chk Γ b sc fn (.e false z) | _ => false
  | .pop i, sc, fn, tg => match tg with
    | .e false (.Call (.Attribute (.Name n _) m ap) [] [] cp) => decide (m = "pop") && (ap.endLine == cp.line) && nmB Γ.N i n && visB sc n && Γ.kd i
    | _ => false
  | .mm f a b, sc, fn, tg => onE tg fun x => match x with
    | .Call (.Name n _) [y, z] [] _ => decide (n = mmn f) && glB sc n && notStar y && notStar z && puc a && puc b && chk Γ a sc fn (.e false y) && chk Γ b sc fn (.e false z)
    | _ => false
  | .aug f i a, sc, fn, tg => onS tg fun ro x => match x with
    | .AugAssign (.Name n _) op y _ => (match f, op with | true, .Add => true | false, .Sub => true | _, _ => false) && nmB Γ.N i n && locB sc fn n && !Γ.kd i && nbr Γ a && chk Γ a sc fn (.e false y)
    | _ => false
  | .set i k v, sc, fn, tg => onS tg fun ro x => match x with
    | .Assign [.Subscript (.Name n _) z _] y _ => nmB Γ.N i n && visB sc n && Γ.kd i && notSlice z && noLc y && nbr Γ v && puc k && nbr Γ k && chk Γ v sc fn (.e false y) && chk Γ k sc fn (.e false z)
    | _ => false
  | .rep a b, sc, fn, tg => onE tg fun x => match x with | .BinOp y .Mult z _ => isOw Γ a && puc a && puc b && chk Γ a sc fn (.e false y) && chk Γ b sc fn (.e false z) | _ => false
  | .augS f i k v, sc, fn, tg => onS tg fun ro x => match x with
    | .AugAssign (.Subscript (.Name n _) z _) op y _ => (match f, op with | true, .Add => true | false, .Sub => true | _, _ => false) && nmB Γ.N i n && visB sc n && Γ.kd i && puc k && nbr Γ k && puc v && nbr Γ v && chk Γ k sc fn (.e false z) && chk Γ v sc fn (.e false y) && notSlice z
    | _ => false
  | .parSO i j a b, sc, fn, tg => onS tg fun ro x => match x with
    | .Assign [.Tuple [.Name n p, .Name m q] _ _] (.Tuple [y, z] _ _) _ => nmB Γ.N i n && nmB Γ.N j m && lcl sc n && lcl sc m && !Γ.kd i && Γ.kd j && !(i == j) && !(n == m) && !(m == n) && q.line == p.line && (match sc.kind with | .function => true | _ => false)
        && [y, z].all notStar && !([y, z].all (foldedForSure 8)) && !([y, z].all (constantsAlone 8)) && nbr Γ a && isOw Γ b && puc b && chk Γ a sc fn (.e false y) && chk Γ b sc fn (.e false z)
    | _ => false
  | .parOOS i j k a b c, sc, fn, tg => onS tg fun ro x => match x with
    | .Assign [.Tuple [.Name n p, .Name m q, .Name o r] _ _] (.Tuple [y, z, w] _ _) _ => nmB Γ.N i n && nmB Γ.N j m && nmB Γ.N k o && lcl sc n && lcl sc m && lcl sc o && Γ.kd i && Γ.kd j && !Γ.kd k && !(i == j) && !(i == k) && !(j == k)
        && decide ([n, m, o].eraseDups.length = 3) && q.line == p.line && r.line == p.line && (match sc.kind with | .function => true | _ => false)
        && [y, z, w].all notStar && !([y, z, w].all (foldedForSure 8)) && !([y, z, w].all (constantsAlone 8)) && isOw Γ a && isOw Γ b && puc b && nbr Γ c && puc c && chk Γ a sc fn (.e false y) && chk Γ b sc fn (.e false z) && chk Γ c sc fn (.e false w)
    | _ => false
  | .cat a b, sc, fn, tg => onE tg fun x => match x with | .BinOp y .Add z _ => puc a && puc b && chk Γ a sc fn (.e false y) && chk Γ b sc fn (.e false z) | _ => false
  | .sset a, sc, fn, tg => onE tg fun x => match x with | .Call (.Name n _) [.Call (.Name m _) [y] [] _] [] _ => decide (n = "sorted") && decide (m = "set") && glB sc n && glB sc m && notStar y && puc a && chk Γ a sc fn (.e false y) | _ => false
  | .lset a, sc, fn, tg => onE tg fun x => match x with | .Call (.Name n _) [.Call (.Name m _) [y] [] _] [] _ => decide (n = "len") && decide (m = "set") && glB sc n && glB sc m && notStar y && puc a && chk Γ a sc fn (.e false y) | _ => false
  | .dic1 k v, sc, fn, tg => onE tg fun x => match x with | .Dict [some y] [z] _ => puc k && nbr Γ k && puc v && nbr Γ v && chk Γ k sc fn (.e false y) && chk Γ v sc fn (.e false z) | _ => false
  | .enum a, sc, fn, tg => match tg with | .i _ (.Tuple _ _ _) (.Call (.Name n _) [y] [] _) => decide (n = "enumerate") && glB sc n && notStar y && nbr Γ a && chk Γ a sc fn (.e false y) | _ => false
  | .parO i j a b, sc, fn, tg => onS tg fun ro x => match x with
    | .Assign [.Tuple [.Name n p, .Name m q] _ _] (.Tuple [y, z] _ _) _ => nmB Γ.N i n && nmB Γ.N j m && lcl sc n && lcl sc m && Γ.kd i && Γ.kd j && !(i == j) && !(n == m) && !(m == n) && q.line == p.line && (match sc.kind with | .function => true | _ => false)
        && [y, z].all notStar && !([y, z].all (foldedForSure 8)) && !([y, z].all (constantsAlone 8)) && isOw Γ a && isOw Γ b && puc b && chk Γ a sc fn (.e false y) && chk Γ b sc fn (.e false z)
    | _ => false
  | .popAt i a, sc, fn, tg => match tg with
    | .e false (.Call (.Attribute (.Name n _) m ap) [y] [] cp) => decide (m = "pop") && (ap.endLine == cp.line) && nmB Γ.N i n && visB sc n && Γ.kd i && notStar y && nbr Γ a && chk Γ a sc fn (.e false y)
    | _ => false
  | .skip, sc, fn, tg => match tg with | .b _ [] => true | _ => false
  | .sq a b, sc, fn, tg => match tg with | .b ro (s :: r) => chk Γ a sc fn (.s ro s) && chk Γ b sc fn (.b ro r) | _ => false
  | .pass, sc, fn, tg => onS tg fun ro x => match x with | .Pass _ => true | _ => false
  | .brk, sc, fn, tg => onS tg fun ro x => match x with | .Break _ => true | _ => false
  | .cnt, sc, fn, tg => onS tg fun ro x => match x with | .Continue _ => true | _ => false
  | .ret a, sc, fn, tg => onS tg fun ro x => match x with | .Return (some y) _ => (match ro with | true => isOw Γ a | false => nbr Γ a) && chk Γ a sc fn (.e false y) | _ => false
  | .retN, sc, fn, tg => onS tg fun ro x => match x with | .Return none _ => !ro | _ => false
  | .ifs t a b, sc, fn, tg => onS tg fun ro x => match x with | .If w y z _ => chk Γ t sc fn (.e true w) && chk Γ a sc fn (.b ro y) && chk Γ b sc fn (.b ro z) | _ => false
  | .asg p a, sc, fn, tg => onS tg fun ro x => match x with
    | .Assign [t] y _ => nbr Γ a && chk Γ a sc fn (.e false y) && (match p with
      | .nm i => (match t with | .Name n _ => nmB Γ.N i n && locB sc fn n && !Γ.kd i | _ => false)
      | .tp q => chkP Γ sc fn (.tp q) (.inl t) && swN sc t y
      | _ => false)
    | _ => false
  | .aso i a, sc, fn, tg => onS tg fun ro x => match x with | .Assign [.Name n _] y _ => nmB Γ.N i n && locB sc fn n && Γ.kd i && isOw Γ a && chk Γ a sc fn (.e false y) | _ => false
  | .for_ s p b, sc, fn, tg => onS tg fun ro x => match x with | .For t iter body [] _ => notSet iter && chk Γ s sc fn (.i false t iter) && chkP Γ sc fn p (.inl t) && chk Γ b sc fn (.b ro body) | _ => false
  | .wh n t b, sc, fn, tg => onS tg fun ro x => match x with | .While w body [] _ => chk Γ t sc fn (.e true w) && chk Γ b sc fn (.b ro body) | _ => false
  | .app i a, sc, fn, tg => onS tg fun ro x => match x with
    | .Expr (.Call (.Attribute (.Name n _) m ap) [y] [] cp) _ => decide (m = "append") && (ap.endLine == cp.line) && nmB Γ.N i n && visB sc n && Γ.kd i && notStar y && nbr Γ a && chk Γ a sc fn (.e false y)
    | _ => false
  | .ext i a, sc, fn, tg => onS tg fun ro x => match x with
    | .Expr (.Call (.Attribute (.Name n _) m ap) [y] [] cp) _ => decide (m = "extend") && (ap.endLine == cp.line) && nmB Γ.N i n && visB sc n && Γ.kd i && notStar y && isOw Γ a && chk Γ a sc fn (.e false y)
    | _ => false
  | .nev, sc, fn, tg => match tg with | .s _ _ => true | .b _ _ => true | _ => false
  | .fgt ks a, sc, fn, tg => match tg with | .s ro x => chk Γ a sc fn (.s ro x) | .b ro xs => chk Γ a sc fn (.b ro xs) | _ => false
  | .doc, sc, fn, tg => onS tg fun ro x => match x with | .Expr (.Constant (.str _) _ _) _ => true | _ => false
  | .par is l, sc, fn, tg => onS tg fun ro x => match x with | .Assign [.Tuple ts _ _] (.Tuple es _ _) _ => parB Γ sc is ts es && chk Γ l sc fn (.l es) | _ => false
  | .drp a, sc, fn, tg => onS tg fun ro x => match x with | .Expr y _ => noLc y && nbr Γ a && chk Γ a sc fn (.e false y) | _ => false
end EV
/-! what a checked tree gives -/
namespace EV
open PySem PySem.Spec PyProof.Rows L2 RZ C8
def bltB (x : Str) : Bool := x == ("len" : Str) || x == ("sum" : Str) || x == ("all" : Str) || x == ("any" : Str) || x == ("tuple" : Str) || x == ("int" : Str) || x == ("abs" : Str) || x == ("list" : Str) || x == ("sorted" : Str) || x == ("isinstance" : Str) || x == ("bool" : Str) || x == ("str" : Str) || x == ("dict" : Str) || x == ("range" : Str) || x == ("zip" : Str) || x == ("min" : Str) || x == ("max" : Str) || x == ("enumerate" : Str) || x == ("set" : Str)
structure XO (Γ : Gm) (κ : Nat → D) (φ : Nat → List D → R D) (lvl : Nat) (G : Cn) (sc : Scope) (fn : Str → Bool) (X : Cx) : Prop where
  N : X.N = Γ.N
  sc : X.env.scope = sc
  fn : X.fn = fn
  calm : X.calm = true
  K : X.K = G.K
  kd : G.kd = Γ.kd
  nd : Γ.N.Nodup
  room : Room lvl X.A
  mg : ∀ x, bltB x = true → X.mg x = none
  cal : ∀ j x n ro, Γ.funs[j]? = some (x, n, ro) → Cal X.prog X.w X.K X.mg X.base lvl x (SpE G.K n ro (φ j)) []
  con : ∀ j x, Γ.cons[j]? = some x → ∃ u v, X.mg x = some u ∧ RelV v u ∧ ∀ H F, Sh G.K H F v (κ j)
  xe : X.xe = fun _ _ => False
structure PEA (X : Cx) (x : Expr) (t : TE) : Prop where
  pe : PE X x t
  asg : ∀ {i : Nat} {y : Str} {py spos : Pos}, X.N.Nodup → X.N[i]? = some y → L2.Loc X.env.scope y → (X.fn y = true ∨ X.env.scope.names.lookup y = some .local) → PS X (.Assign [.Name y py] x spos) (tAsg t (gName i))
theorem PEA.weak {X : Cx} {e : Expr} {t t' : TE} (h : PEA X e t) (w : ∀ σ H Q, t' σ H Q → t σ H Q) : PEA X e t' := ⟨PE.weak h.pe w, fun a b c d => PS.weak (h.asg a b c d) fun D σ H q => w _ _ _ q⟩
theorem sw_no {x : Expr} {t : Option Expr} {l : Nat} {env : Env} (h : noLc x = true) : swapsWith x t l env = pure false := by
  cases x <;> first | rfl | cases h
theorem PEA.of {X : Cx} {x : Expr} {t : TE} (h : PE X x t) (hn : noLc x = true) : PEA X x t := ⟨h, fun a b c d => ps_set a b c h (sw_no hn) d⟩
def Snd (Γ : Gm) (φ : Nat → List D → R D) (κ : Nat → D) (X : Cx) (G : Cn) (c : C) : Tg → Prop
  | .e false x => PEA X x (T G (kdc Γ c) (puc c) (den φ κ c).E)
  | .e true x => PT X x (TB G true (den φ κ c).T) ∧ (isBO x = true → PW X x (TB G true (den φ κ c).T))
  | .l xs => PA X xs (TL G (puc c) (den φ κ c).L)
  | .o x => PO X x (TOp G (den φ κ c).O)
  | .i pl tg x => PI X tg x (TSrc G (puc c) pl (den φ κ c).I)
  | .s ro x => PS X x (TSm G ro (den φ κ c).M)
  | .b ro xs => PSs X xs (TSm G ro (den φ κ c).M)
section
variable {Γ : Gm} {φ : Nat → List D → R D} {κ : Nat → D} {X : Cx} {G : Cn} {c : C} {pu : Bool} {k : Kd}
theorem fsh {x : Expr} {m : ME} (h : PE X x (T G .sh true m)) (hn : noLc x = true) (hp : plainT x = true) (hb : isBO x = false) {tg : Tg} (hd : den φ κ c = dE m) (hk : kdc Γ c = .sh) (hu : puc c = true) (b : Bool) (ht : tg = .e b x) : Snd Γ φ κ X G c tg := by
  subst ht
  cases b with
  | false =>
    show PEA X x (T G (kdc Γ c) (puc c) (den φ κ c).E)
    rw [hd, hk, hu]
    exact .of h hn
  | true =>
    refine ⟨?_, fun z => by rw [hb] at z; cases z⟩
    rw [hd]
    exact t_val (T.br_of_sh h) hp
theorem fbr {x : Expr} {m : ME} (h : PE X x (T G .br true m)) (hn : noLc x = true) (hp : plainT x = true) (hb : isBO x = false) {tg : Tg} (hd : den φ κ c = dE m) (hk : kdc Γ c = .br) (hu : puc c = true) (b : Bool) (ht : tg = .e b x) : Snd Γ φ κ X G c tg := by
  subst ht
  cases b with
  | false =>
    show PEA X x (T G (kdc Γ c) (puc c) (den φ κ c).E)
    rw [hd, hk, hu]
    exact .of h hn
  | true =>
    refine ⟨?_, fun z => by rw [hb] at z; cases z⟩
    rw [hd]
    exact t_val h hp
theorem fow {x : Expr} {m : ME} (h : PE X x (T G .ow true m)) (hn : noLc x = true) (hp : plainT x = true) (hb : isBO x = false) {tg : Tg} (hd : den φ κ c = dE m) (hk : kdc Γ c = .ow) (hu : puc c = true) (b : Bool) (ht : tg = .e b x) : Snd Γ φ κ X G c tg := by
  subst ht
  cases b with
  | false =>
    show PEA X x (T G (kdc Γ c) (puc c) (den φ κ c).E)
    rw [hd, hk, hu]
    exact .of h hn
  | true =>
    refine ⟨?_, fun z => by rw [hb] at z; cases z⟩
    rw [hd]
    exact t_val (T.br_of_sh (T.sh_of_ow h)) hp
theorem f2 {x : Expr} {m : ME} (h : PE X x (T G .sh true m)) (ht : PT X x (TB G true (tVal m))) (hn : noLc x = true) (hb : isBO x = false) {tg : Tg} (hd : den φ κ c = dE m) (hk : kdc Γ c = .sh) (hu : puc c = true) (b : Bool) (hq : tg = .e b x) : Snd Γ φ κ X G c tg := by
  subst hq
  cases b with
  | false =>
    show PEA X x (T G (kdc Γ c) (puc c) (den φ κ c).E)
    rw [hd, hk, hu]
    exact .of h hn
  | true =>
    refine ⟨?_, fun z => by rw [hb] at z; cases z⟩
    rw [hd]
    exact ht
theorem toSh {x : Expr} {m : ME} (hn : nbr Γ c = true) (h : PE X x (T G (kdc Γ c) pu m)) : PE X x (T G .sh pu m) := by
  unfold nbr at hn
  split at hn
  · cases hn
  · cases e : kdc Γ c with
    | sh => rw [e] at h; exact h
    | ow => rw [e] at h; exact T.sh_of_ow h
    | br => exact absurd e (by assumption)
theorem toBr {x : Expr} {m : ME} (h : PE X x (T G (kdc Γ c) pu m)) : PE X x (T G .br pu m) := by
  cases e : kdc Γ c with
  | sh => rw [e] at h; exact T.br_of_sh h
  | ow => rw [e] at h; exact T.br_of_sh (T.sh_of_ow h)
  | br => rw [e] at h; exact h
theorem toOw {x : Expr} {m : ME} (hn : isOw Γ c = true) (h : PE X x (T G (kdc Γ c) pu m)) : PE X x (T G .ow pu m) := by
  unfold isOw at hn
  split at hn
  · rename_i e; rw [e] at h; exact h
  · cases hn
theorem peaSh {x : Expr} {m : ME} (hn : nbr Γ c = true) (h : PEA X x (T G (kdc Γ c) pu m)) : PEA X x (T G .sh pu m) := by
  unfold nbr at hn
  split at hn
  · cases hn
  · cases e : kdc Γ c with
    | sh => rw [e] at h; exact h
    | ow =>
      rw [e] at h
      exact h.weak fun σ H Q q => by
        obtain ⟨st, O, S, q⟩ := q
        refine ⟨st, O, S, R.all_mono (fun p q v H' O' sp S' vr => ?_) q⟩
        obtain ⟨a, rfl, ⟨ho, ds, vs, e1, e2, e3⟩, hn⟩ := vr
        refine q _ H' (fun b => O' b ∧ b ≠ a) sp.give (S'.give hn) ?_
        show ShR _ _ _ _ _ _
        rw [e1]
        exact .inl (.lst (.inl e2) (fun z => z.elim (fun z => S'.bo a z ho) fun z => z.2 rfl) (e3.mono fun c z => z.elim .inl fun z => .inr z.1))
    | br => exact absurd e (by assumption)
theorem peaOw {x : Expr} {m : ME} (hn : isOw Γ c = true) (h : PEA X x (T G (kdc Γ c) pu m)) : PEA X x (T G .ow pu m) := by
  unfold isOw at hn
  split at hn
  · rename_i e; rw [e] at h; exact h
  · cases hn
end
section
variable {Γ : Gm} {φ : Nat → List D → R D} {κ : Nat → D} {X : Cx} {G : Cn} {lvl : Nat} {sc : Scope} {fn : Str → Bool}
theorem okN_db {x : Str} (h : okN x = true) : (x == ("__debug__" : Str)) = false ∧ (x == ("__classdict__" : Str)) = false := by
  unfold okN at h
  simpa using h
theorem XO.vis (X0 : XO Γ κ φ lvl G sc fn X) {x : Str} (h : visB sc x = true) : Vis X.env.scope x ∧ (x == ("__debug__" : Str)) = false ∧ (x == ("__classdict__" : Str)) = false := by
  unfold visB at h
  have h' := Bool.and_eq_true_iff.mp h
  refine ⟨?_, okN_db h'.2⟩
  have h1 := h'.1
  rw [X0.sc]
  split at h1
  · exact .inl (by assumption)
  · exact .inr (.inl (by assumption))
  · exact .inr (.inr (by assumption))
  · cases h1
theorem XO.gl (X0 : XO Γ κ φ lvl G sc fn X) {x : Str} (h : glB sc x = true) : Gl X x ∧ (x == ("__debug__" : Str)) = false := by
  unfold glB at h
  have h' := Bool.and_eq_true_iff.mp h
  refine ⟨?_, (okN_db h'.2).1⟩
  have h1 := h'.1
  show X.env.scope.names.lookup x = _
  rw [X0.sc]
  split at h1
  · assumption
  · cases h1
theorem XO.loc (X0 : XO Γ κ φ lvl G sc fn X) {x : Str} (h : locB sc fn x = true) : L2.Loc X.env.scope x ∧ (X.fn x = true ∨ X.env.scope.names.lookup x = some .local) := by
  unfold locB at h
  unfold L2.Loc
  rw [X0.sc, X0.fn]
  split at h
  · exact ⟨.inl (by assumption), .inr (by assumption)⟩
  · exact ⟨.inr (by assumption), .inl h⟩
  · cases h
theorem XO.lcl (X0 : XO Γ κ φ lvl G sc fn X) {x : Str} (h : EV.lcl sc x = true) : X.env.scope.names.lookup x = some .local := by
  unfold EV.lcl at h
  rw [X0.sc]
  split at h
  · assumption
  · cases h
theorem XO.nm (X0 : XO Γ κ φ lvl G sc fn X) {i : Nat} {x : Str} (h : nmB Γ.N i x = true) : X.N[i]? = some x := by
  rw [X0.N]
  exact of_decide_eq_true h
theorem XO.nd' (X0 : XO Γ κ φ lvl G sc fn X) : X.N.Nodup := by
  rw [X0.N]
  exact X0.nd
theorem XO.k1 (X0 : XO Γ κ φ lvl G sc fn X) {i : Nat} (h : Γ.kd i = true) : G.kd i = true := by
  rw [X0.kd]; exact h
theorem XO.k0 (X0 : XO Γ κ φ lvl G sc fn X) {i : Nat} (h : (!Γ.kd i) = true) : G.kd i = false := by
  rw [X0.kd]; simpa using h
/-- the block of a comprehension -/
theorem XO.blk (X0 : XO Γ κ φ lvl G sc fn X) (scope : Scope) (s : Shared) (H : Hp) (A : Addr) (cl : List (Str × Addr)) (fp : List Addr) :
    XO Γ κ φ lvl G (relS scope sc) (fun x => scope.names.lookup x == some .cell) (X.blk s H scope (compEnvC scope cl A X.env) fp) where
  N := X0.N
  sc := by rw [← X0.sc]; rfl
  fn := rfl
  calm := X0.calm
  K := X0.K
  kd := X0.kd
  nd := X0.nd
  room := X0.room
  mg := X0.mg
  cal := X0.cal
  con := X0.con
  xe := rfl
theorem XO.at (X0 : XO Γ κ φ lvl G sc fn X) (B : Addr → Prop) : XO Γ κ φ lvl (G.at B) sc fn X := ⟨X0.N, X0.sc, X0.fn, X0.calm, X0.K, X0.kd, X0.nd, X0.room, X0.mg, X0.cal, X0.con, X0.xe⟩
theorem XO.pass (X0 : XO Γ κ φ lvl G sc fn X) : PassesOwn (model X.prog X.w) X.A X.env X.xe := by
  rw [X0.xe]
  exact PassesOwn.never
theorem nstar {es : List Expr} : ∀ {env : Env}, es.all notStar = true → ∀ pos, (backTo pos (starEach es env)).any (·.1) = false := fun h pos => plain_back h
theorem chkP_ok (X0 : XO Γ κ φ lvl G sc fn X) : ∀ p t, chkP Γ sc fn p t = true → match t with | .inl e => PG X e (TPat G p) | .inr es => PGs X es (TPats G p) := by
  intro p
  induction p with
  | nm i =>
    intro t h
    unfold chkP at h
    split at h
    · simp only [Bool.and_eq_true] at h
      obtain ⟨⟨h1, h2⟩, h3⟩ := h
      exact g_nm (pg_name X0.nd' (X0.nm h1) (X0.loc h2).1 (X0.loc h2).2) (X0.k0 h3)
    · cases h
  | tp p ih =>
    intro t h
    unfold chkP at h
    split at h
    · simp only [Bool.and_eq_true, decide_eq_true_eq] at h
      obtain ⟨⟨h1, h2⟩, h3⟩ := h
      exact g_tup X0.K X0.calm (ih _ h1) h2 h3
    · cases h
  | nil =>
    intro t h
    unfold chkP at h
    split at h
    · exact g_nil
    · cases h
  | cons p q ihp ihq =>
    intro t h
    unfold chkP at h
    split at h
    · simp only [Bool.and_eq_true] at h
      obtain ⟨⟨h1, h2⟩, h3⟩ := h
      exact g_cons (ihp _ h1) (ihq _ h2) h3
    · cases h
end
end EV
/-! what a checked tree gives: all of it -/
namespace EV
open PySem PySem.Spec PyProof.Rows L2 RZ C8
theorem onE_of {tg : Tg} {f : Expr → Bool} (h : onE tg f = true) : ∃ b x, tg = .e b x ∧ f x = true := by
  cases tg with
  | e b x => exact ⟨b, x, rfl, h⟩
  | _ => cases h
theorem onV_of {tg : Tg} {f : Expr → Bool} (h : onV tg f = true) : ∃ x, tg = .e false x ∧ f x = true := by
  cases tg with
  | e b x => cases b with
    | false => exact ⟨x, rfl, h⟩
    | true => cases h
  | _ => cases h
theorem onS_of {tg : Tg} {f : Bool → Stmt → Bool} (h : onS tg f = true) : ∃ b x, tg = .s b x ∧ f b x = true := by
  cases tg with
  | s b x => exact ⟨b, x, rfl, h⟩
  | _ => cases h
def Ok (Γ : Gm) (φ : Nat → List D → R D) (κ : Nat → D) (c : C) : Prop := ∀ {lvl : Nat} {G : Cn} {sc : Scope} {fn : Str → Bool} {X : Cx} {tg : Tg}, chk Γ c sc fn tg = true → XO Γ κ φ lvl G sc fn X → Snd Γ φ κ X G c tg
section
variable {Γ : Gm} {φ : Nat → List D → R D} {κ : Nat → D}
theorem Ok.pe {c : C} (o : Ok Γ φ κ c) {lvl : Nat} {G : Cn} {sc : Scope} {fn : Str → Bool} {X : Cx} {x : Expr} (h : chk Γ c sc fn (.e false x) = true) (X0 : XO Γ κ φ lvl G sc fn X) : PE X x (T G (kdc Γ c) (puc c) (den φ κ c).E) := PEA.pe (o h X0)
theorem Ok.br {c : C} (o : Ok Γ φ κ c) {lvl : Nat} {G : Cn} {sc : Scope} {fn : Str → Bool} {X : Cx} {x : Expr} (h : chk Γ c sc fn (.e false x) = true) (hp : puc c = true) (X0 : XO Γ κ φ lvl G sc fn X) : PE X x (T G .br true (den φ κ c).E) := by
  have := toBr (o.pe h X0)
  rw [hp] at this
  exact this
theorem Ok.sh {c : C} (o : Ok Γ φ κ c) {lvl : Nat} {G : Cn} {sc : Scope} {fn : Str → Bool} {X : Cx} {x : Expr} (h : chk Γ c sc fn (.e false x) = true) (hp : puc c = true) (hn : nbr Γ c = true) (X0 : XO Γ κ φ lvl G sc fn X) : PE X x (T G .sh true (den φ κ c).E) := by
  have := toSh hn (o.pe h X0)
  rw [hp] at this
  exact this
theorem ok_k (d : D) : Ok Γ φ κ (.k d) := by
  intro lvl G sc fn X tg h X0
  obtain ⟨b, x, rfl, hq⟩ := onE_of h
  replace h := hq
  split at h
  · rename_i c j p
    refine fsh (m := mK d) ?_ rfl rfl rfl rfl rfl rfl b rfl
    cases d with
    | int i => cases c with
      | int j => cases of_decide_eq_true h; exact e_k pe_int fun H O => .inl (.int _)
      | _ => cases h
    | bl i => cases c with
      | bool j => cases of_decide_eq_true h; exact e_k pe_bl fun H O => .inl (.bl _)
      | _ => cases h
    | non => cases c with
      | none => exact e_k pe_non fun H O => .inl .non
      | _ => cases h
    | str s => cases c with
      | str z =>
        have h' := Bool.and_eq_true_iff.mp (show (decide (s = z) && strOkB s) = true from h)
        cases of_decide_eq_true h'.1
        exact e_k pe_str fun H O => .inl (.str _ h'.2)
      | _ => cases h
    | _ => cases c <;> cases h
  · cases h
theorem ok_g (j : Nat) : Ok Γ φ κ (.g j) := by
  intro lvl G sc fn X tg h X0
  obtain ⟨b, x, rfl, hq⟩ := onE_of h
  replace h := hq
  split at h
  · simp only [Bool.and_eq_true, decide_eq_true_eq] at h
    obtain ⟨u, v, h1, h2, h3⟩ := X0.con _ _ h.1
    refine fsh (m := mK (κ j)) ?_ rfl rfl rfl rfl rfl rfl b rfl
    exact e_k (pe_glob (X0.gl h.2).1 h1 h2 (X0.gl h.2).2) fun H O => .inl (h3 _ _)
  · cases h
theorem ok_v (i : Nat) : Ok Γ φ κ (.v i) := by
  intro lvl G sc fn X tg h X0
  obtain ⟨b, x, rfl, hq⟩ := onE_of h
  replace h := hq
  split at h
  · simp only [Bool.and_eq_true] at h
    obtain ⟨v1, v2, v3⟩ := X0.vis h.1.2
    exact fsh (m := mV i) (PE.weak (pe_var (X0.nm h.1.1) v1 v2 v3) (w_v (X0.k0 h.2))) rfl rfl rfl rfl rfl rfl b rfl
  · cases h
theorem ok_b (i : Nat) : Ok Γ φ κ (.b i) := by
  intro lvl G sc fn X tg h X0
  obtain ⟨b, x, rfl, hq⟩ := onE_of h
  replace h := hq
  split at h
  · simp only [Bool.and_eq_true] at h
    obtain ⟨v1, v2, v3⟩ := X0.vis h.1.2
    exact fbr (m := mV i) (PE.weak (pe_var (X0.nm h.1.1) v1 v2 v3) (w_b (X0.k1 h.2))) rfl rfl rfl rfl rfl rfl b rfl
  · cases h
theorem ok_m (i : Nat) : Ok Γ φ κ (.m i) := by
  intro lvl G sc fn X tg h X0
  obtain ⟨b, x, rfl, hq⟩ := onE_of h
  replace h := hq
  split at h
  · simp only [Bool.and_eq_true] at h
    obtain ⟨v1, v2, v3⟩ := X0.vis h.1.2
    exact fow (m := mM i) (PE.weak (pe_var (X0.nm h.1.1) v1 v2 v3) (w_m (X0.k1 h.2))) rfl rfl rfl rfl rfl rfl b rfl
  · cases h
theorem ok_bin (o : BO) {a b : C} (oa : Ok Γ φ κ a) (ob : Ok Γ φ κ b) : Ok Γ φ κ (.bin o a b) := by
  intro lvl G sc fn X tg h X0
  obtain ⟨t, x, rfl, hq⟩ := onE_of h
  replace h := hq
  split at h
  · simp only [Bool.and_eq_true] at h
    obtain ⟨⟨⟨⟨h1, h2⟩, h3⟩, h4⟩, h5⟩ := h
    have ha := oa.br h4 h2 X0
    have hb := ob.br h5 h3 X0
    refine fsh (m := m2 (bop o) (den φ κ a).E (den φ κ b).E) ?_ rfl rfl rfl rfl rfl rfl t rfl
    unfold bopB at h1
    split at h1
    · have := X0.K
      exact PE.weak (pe_op (op_catL.or (op_add.or (op_catA.or op_add_str))) ha hb) (by rw [this]; exact w_2 u_addL)
    · exact PE.weak (pe_op op_sub ha hb) (w_2 u_sub)
    · have := X0.K
      exact PE.weak (pe_op (op_mul.or (op_repT1.or op_repT)) ha hb) (by rw [this]; exact w_2 u_mulT)
    · exact PE.weak (pe_op op_fdivN ha hb) (w_2 u_div)
    · exact PE.weak (pe_op op_modN ha hb) (w_2 u_mod)
    · cases h1
  · cases h
theorem cop_ok (o : CO) {op : CmpOp} {lvl : Nat} {G : Cn} {sc : Scope} {fn : Str → Bool} {X : Cx} (X0 : XO Γ κ φ lvl G sc fn X) (h : copB o op = true) : ∃ r, OpR X (compareOp op) r ∧ U2 G .sh (cop o) r := by
  have hu := X0.room.un
  have hK := X0.K
  unfold copB at h
  split at h
  · exact ⟨_, op_lt, u_cmp⟩
  · exact ⟨_, op_le, u_cmp⟩
  · exact ⟨_, op_gt, u_cmp⟩
  · exact ⟨_, op_ge, u_cmp⟩
  · exact ⟨_, op_eqE (by omega), by rw [hK]; exact u_eqF⟩
  · exact ⟨_, op_neE (by omega), by rw [hK]; exact u_eqF⟩
  · exact ⟨_, op_inE (by omega), by rw [hK]; exact u_in⟩
  · exact ⟨_, op_notInE (by omega), by rw [hK]; exact u_in⟩
  · cases h
theorem ok_cmp (o : CO) {a b : C} (oa : Ok Γ φ κ a) (ob : Ok Γ φ κ b) : Ok Γ φ κ (.cmp o a b) := by
  intro lvl G sc fn X tg h X0
  obtain ⟨t, x, rfl, hq⟩ := onE_of h
  replace h := hq
  split at h
  · simp only [Bool.and_eq_true, Bool.not_eq_true'] at h
    obtain ⟨⟨⟨⟨⟨h1, h0⟩, h2⟩, h3⟩, h4⟩, h5⟩ := h
    have ha := oa.br h4 h2 X0
    have hb := ob.br h5 h3 X0
    obtain ⟨r, o1, o2⟩ := cop_ok o X0 h1
    exact f2 (m := m2 (cop o) (den φ κ a).E (den φ κ b).E) (PE.weak (pe_cmpR o1 ha hb h0) (w_2 o2)) (PT.weak (pt_cmpR o1 ha hb h0) fun σ H Q q => w_2 o2 σ H _ (w_tst σ H Q q)) rfl rfl rfl rfl rfl t rfl
  · cases h
theorem ok_isB (f : Bool) {a b : C} (oa : Ok Γ φ κ a) (ob : Ok Γ φ κ b) : Ok Γ φ κ (.isB f a b) := by
  intro lvl G sc fn X tg h X0
  obtain ⟨t, x, rfl, hq⟩ := onE_of h
  replace h := hq
  split at h
  · simp only [Bool.and_eq_true, Bool.not_eq_true'] at h
    obtain ⟨⟨⟨⟨⟨h1, h0⟩, h2⟩, h3⟩, h4⟩, h5⟩ := h
    have ha := oa.br h4 h2 X0
    have hb := ob.br h5 h3 X0
    have : ∃ r, OpR X (compareOp (by assumption)) r ∧ U2 G .sh (oIsB (bId f)) r := by
      unfold isOp at h1
      split at h1
      · exact ⟨_, op_isBl, u_isB (f := id)⟩
      · exact ⟨_, op_notBl, u_isB (f := fun b => !b)⟩
      · cases h1
    obtain ⟨r, o1, o2⟩ := this
    exact f2 (m := m2 (oIsB (bId f)) (den φ κ a).E (den φ κ b).E) (PE.weak (pe_cmpR o1 ha hb h0) (w_2 o2)) (PT.weak (pt_cmpR o1 ha hb h0) fun σ H Q q => w_2 o2 σ H _ (w_tst σ H Q q)) rfl rfl rfl rfl rfl t rfl
  · cases h
theorem ok_isN (f : Bool) {a : C} (oa : Ok Γ φ κ a) : Ok Γ φ κ (.isN f a) := by
  intro lvl G sc fn X tg h X0
  obtain ⟨t, x, rfl, hq⟩ := onE_of h
  replace h := hq
  split at h
  · simp only [Bool.and_eq_true] at h
    obtain ⟨⟨h1, h2⟩, h3⟩ := h
    have ha := oa.br h3 h2 X0
    unfold isOp at h1
    split at h1
    · exact f2 (m := m1 (oIsN id) (den φ κ a).E) (PE.weak (pe_cmp (pc_isN ha) rfl) (w_1 u_isN)) (PT.weak (pt_cmp (pc_isN ha) rfl) fun σ H Q q => by
        have z := w_1 (r := fun x H Q => Q (.bl (decide (x = .non))) H) (u_isN (G := G) (f := id)) σ H _ (w_tst σ H Q q)
        exact z) rfl rfl rfl rfl rfl t rfl
    · exact f2 (m := m1 (oIsN fun b => !b) (den φ κ a).E) (PE.weak (pe_cmp (pc_notN ha) rfl) (w_1 u_isN)) (PT.weak (pt_cmp (pc_notN ha) rfl) fun σ H Q q => by
        have z := w_1 (r := fun x H Q => Q (.bl (!decide (x = .non))) H) (u_isN (G := G) (f := fun b => !b)) σ H _ (w_tst σ H Q q)
        exact z) rfl rfl rfl rfl rfl t rfl
    · cases h1
  · cases h
theorem icop_ok (o : CO) {op : CmpOp} {X : Cx} (h : icopB o op = true) : OpR X (compareOp op) (rI0 fun i j => .bl (iop o i j)) := by
  unfold icopB at h
  split at h
  · exact op_lt
  · exact op_le
  · exact op_gt
  · exact op_ge
  · cases h
theorem ok_chain (o p : CO) {a b c : C} (oa : Ok Γ φ κ a) (ob : Ok Γ φ κ b) (oc : Ok Γ φ κ c) : Ok Γ φ κ (.chain o p a b c) := by
  intro lvl G sc fn X tg h X0
  obtain ⟨t, x, rfl, hq⟩ := onE_of h
  replace h := hq
  split at h
  · simp only [Bool.and_eq_true, Bool.not_eq_true'] at h
    obtain ⟨⟨⟨⟨⟨⟨⟨⟨h1, h2⟩, h3⟩, h4⟩, h5⟩, h6⟩, h7⟩, h8⟩, h9⟩ := h
    have ha := oa.br h7 h4 X0
    have hb := ob.br h8 h5 X0
    have hc := oc.br h9 h6 X0
    exact f2 (m := mChain (iop o) (iop p) (den φ κ a).E (den φ κ b).E (den φ κ c).E) (PE.weak (pe_chain (icop_ok o h1) (icop_ok p h2) ha hb hc h3) w_chain) (PT.weak (pt_chain (icop_ok o h1) (icop_ok p h2) ha hb hc h3) fun σ H Q q => w_chain σ H _ (w_tst σ H Q q)) rfl rfl rfl rfl rfl t rfl
  · cases h
theorem ok_neg {a : C} (oa : Ok Γ φ κ a) : Ok Γ φ κ (.neg a) := by
  intro lvl G sc fn X tg h X0
  obtain ⟨t, x, rfl, hq⟩ := onE_of h
  replace h := hq
  split at h
  · simp only [Bool.and_eq_true] at h
    exact fsh (m := m1 oNeg (den φ κ a).E) (PE.weak (pe_un un_neg (oa.br h.2 h.1 X0)) (w_1 u_neg)) rfl rfl rfl rfl rfl rfl t rfl
  · cases h
end
end EV
namespace EV
open PySem PySem.Spec PyProof.Rows L2 RZ C8
theorem PW.weak {X : Cx} {e : Expr} {t t' : TT} (h : PW X e t) (w : ∀ σ H Q, t' σ H Q → t σ H Q) : PW X e t' := ⟨fun wh pins s σ H Q I q => h.run wh pins s σ H Q I (w σ H Q q)⟩
section
variable {Γ : Gm} {φ : Nat → List D → R D} {κ : Nat → D}
theorem ok_not {a : C} (oa : Ok Γ φ κ a) : Ok Γ φ κ (.not a) := by
  intro lvl G sc fn X tg h X0
  unfold chk at h
  split at h
  · simp only [Bool.and_eq_true] at h
    exact PEA.of (PE.weak (pe_not (oa.sh h.2 h.1.1 h.1.2 X0)) w_mnot) rfl
  · exact ⟨PT.weak (pt_not (oa h X0).1) w_tnot, fun z => nomatch z⟩
  · cases h
theorem ok_and {a b : C} (oa : Ok Γ φ κ a) (ob : Ok Γ φ κ b) : Ok Γ φ κ (.and a b) := by
  intro lvl G sc fn X tg h X0
  unfold chk at h
  split at h
  · simp only [Bool.and_eq_true] at h
    obtain ⟨⟨⟨⟨⟨h1, h2⟩, h3⟩, h4⟩, h5⟩, h6⟩ := h
    exact PEA.of (PE.weak (pe_and (oa.sh h5 h1 h2 X0) (ob.sh h6 h3 h4 X0)) w_mand) rfl
  · simp only [Bool.and_eq_true] at h
    have w := PW.weak (pw_and (oa h.1 X0).1 ((ob h.2 X0).2 rfl)) (w_tand (G := G))
    exact ⟨w.pt, fun _ => w⟩
  · cases h
theorem ok_or {a b : C} (oa : Ok Γ φ κ a) (ob : Ok Γ φ κ b) : Ok Γ φ κ (.or a b) := by
  intro lvl G sc fn X tg h X0
  unfold chk at h
  split at h
  · simp only [Bool.and_eq_true] at h
    obtain ⟨⟨⟨⟨⟨h1, h2⟩, h3⟩, h4⟩, h5⟩, h6⟩ := h
    exact PEA.of (PE.weak (pe_or (oa.sh h5 h1 h2 X0) (ob.sh h6 h3 h4 X0)) w_mor) rfl
  · simp only [Bool.and_eq_true] at h
    have w := PW.weak (pw_or (oa h.1 X0).1 ((ob h.2 X0).2 rfl)) (w_tor (G := G))
    exact ⟨w.pt, fun _ => w⟩
  · cases h
theorem ok_one {a : C} (oa : Ok Γ φ κ a) : Ok Γ φ κ (.one a) := by
  intro lvl G sc fn X tg h X0
  unfold chk at h
  split at h
  · simp only [Bool.and_eq_true] at h
    have := oa.pe h.2 X0
    rw [h.1] at this
    exact PEA.of (pe_one this) rfl
  · rename_i op y p
    have w : PW X (.BoolOp op [y] p) (TB G true (den φ κ a).T) := by
      cases op with
      | And => exact pw_and1 (oa h X0).1
      | Or => exact pw_or1 (oa h X0).1
    exact ⟨w.pt, fun _ => w⟩
  · cases h
theorem ok_ifx {t a b : C} (ot : Ok Γ φ κ t) (oa : Ok Γ φ κ a) (ob : Ok Γ φ κ b) : Ok Γ φ κ (.ifx t a b) := by
  intro lvl G sc fn X tg h X0
  obtain ⟨x, rfl, hq⟩ := onV_of h
  replace h := hq
  split at h
  · simp only [Bool.and_eq_true] at h
    obtain ⟨⟨⟨⟨⟨⟨h1, h2⟩, h3⟩, h4⟩, h5⟩, h6⟩, h7⟩ := h
    have hp := (ot h5 X0).1
    by_cases e : kdc Γ a = .ow ∧ kdc Γ b = .ow
    · have ha := oa.pe h6 X0
      have hb := ob.pe h7 X0
      rw [h1, e.1] at ha
      rw [h3, e.2] at hb
      have ek : kdc Γ (.ifx t a b) = .ow := by show (match kdc Γ a with | .ow => _ | _ => _) = _; rw [e.1]; show (match kdc Γ b with | .ow => _ | _ => _) = _; rw [e.2]
      show PEA X _ (T G (kdc Γ (.ifx t a b)) true _)
      rw [ek]
      exact PEA.of (PE.weak (pe_ifExp hp ha hb) w_if) rfl
    · have ek : kdc Γ (.ifx t a b) = .sh := by
        show (match kdc Γ a with | .ow => (match kdc Γ b with | .ow => Kd.ow | _ => .sh) | _ => .sh) = _
        cases ea : kdc Γ a <;> cases eb : kdc Γ b <;> first | rfl | exact absurd ⟨ea, eb⟩ e
      show PEA X _ (T G (kdc Γ (.ifx t a b)) true _)
      rw [ek]
      exact PEA.of (PE.weak (pe_ifExp hp (oa.sh h6 h1 h2 X0) (ob.sh h7 h3 h4 X0)) w_if) rfl
  · cases h
theorem ok_nil : Ok Γ φ κ .nil := by
  intro lvl G sc fn X tg h X0
  unfold chk at h
  split at h
  · exact l_nil
  · cases h
theorem ok_cons {a b : C} (oa : Ok Γ φ κ a) (ob : Ok Γ φ κ b) : Ok Γ φ κ (.cons a b) := by
  intro lvl G sc fn X tg h X0
  unfold chk at h
  split at h
  · simp only [Bool.and_eq_true] at h
    obtain ⟨⟨⟨h1, h2⟩, h3⟩, h4⟩ := h
    have ha := toSh h2 (oa.pe h3 X0)
    have hb : PA X _ (TL G (puc b) (den φ κ b).L) := ob h4 X0
    show PA X _ (TL G (puc a && puc b) _)
    cases ea : puc a with
    | true =>
      rw [ea] at ha
      exact l_cons (T.any_pu ha) hb h1
    | false =>
      rw [ea] at ha
      refine l_cons ha ?_ h1
      cases eb : puc b with
      | true => rw [eb] at hb; exact TL.any_pu hb
      | false => rw [eb] at hb; exact hb
  · cases h
theorem ok_tup {l : C} (ol : Ok Γ φ κ l) : Ok Γ φ κ (.tup l) := by
  intro lvl G sc fn X tg h X0
  obtain ⟨t, x, rfl, hq⟩ := onE_of h
  replace h := hq
  split at h
  · simp only [Bool.and_eq_true] at h
    have hl : PA X _ (TL G (puc l) (den φ κ l).L) := ol h.2 X0
    rw [h.1] at hl
    exact fsh (m := mTup (den φ κ l).L) (PE.weak (pe_tup hl) w_tup) rfl rfl rfl rfl rfl rfl t rfl
  · cases h
theorem ok_lst {l : C} (ol : Ok Γ φ κ l) : Ok Γ φ κ (.lst l) := by
  intro lvl G sc fn X tg h X0
  obtain ⟨t, x, rfl, hq⟩ := onE_of h
  replace h := hq
  split at h
  · simp only [Bool.and_eq_true] at h
    have hl : PA X _ (TL G (puc l) (den φ κ l).L) := ol h.2 X0
    rw [h.1] at hl
    exact fow (m := mLst (den φ κ l).L) (PE.weak (pe_lst hl) w_lst) rfl rfl rfl rfl rfl rfl t rfl
  · cases h
theorem ok_ix {a b : C} (oa : Ok Γ φ κ a) (ob : Ok Γ φ κ b) : Ok Γ φ κ (.ix a b) := by
  intro lvl G sc fn X tg h X0
  obtain ⟨t, x, rfl, hq⟩ := onE_of h
  replace h := hq
  split at h
  · simp only [Bool.and_eq_true] at h
    obtain ⟨⟨⟨⟨h1, h2⟩, h3⟩, h4⟩, h5⟩ := h
    have hK := X0.K
    exact fsh (m := m2 oIx (den φ κ a).E (den φ κ b).E) (PE.weak (pe_ix (ix_list.or ix_tup) (oa.br h4 h2 X0) (ob.br h5 h3 X0) (ix_of h1)) (by rw [hK]; exact w_2 u_ix)) rfl rfl rfl rfl rfl rfl t rfl
  · cases h
theorem ok_sl (own : Bool) {a lo hi : C} (oa : Ok Γ φ κ a) (ol : Ok Γ φ κ lo) (oh : Ok Γ φ κ hi) : Ok Γ φ κ (.sl own a lo hi) := by
  intro lvl G sc fn X tg h X0
  obtain ⟨t, x, rfl, hq⟩ := onE_of h
  replace h := hq
  split at h
  · simp only [Bool.and_eq_true] at h
    obtain ⟨⟨⟨h1, h2⟩, h3⟩, h4⟩ := h
    have hK := X0.K
    have ha := oa.br h2 h1 X0
    have hl : PO X _ (TOp G (den φ κ lo).O) := ol h3 X0
    have hh : PO X _ (TOp G (den φ κ hi).O) := oh h4 X0
    cases own with
    | false => exact fsh (m := mSl false (den φ κ a).E (den φ κ lo).O (den φ κ hi).O) (PE.weak (pe_slice sl_e ha hl hh) (by rw [hK]; exact w_sl_sh)) rfl rfl rfl rfl rfl rfl t rfl
    | true => exact fow (m := mSl true (den φ κ a).E (den φ κ lo).O (den φ κ hi).O) (PE.weak (pe_slice sl_e ha hl hh) (by rw [hK]; exact w_sl_ow)) rfl rfl rfl rfl rfl rfl t rfl
  · cases h
theorem ok_rev (own : Bool) {a : C} (oa : Ok Γ φ κ a) : Ok Γ φ κ (.rev own a) := by
  intro lvl G sc fn X tg h X0
  obtain ⟨t, x, rfl, hq⟩ := onE_of h
  replace h := hq
  split at h
  · simp only [Bool.and_eq_true] at h
    have hK := X0.K
    have ha := oa.br h.2 h.1 X0
    cases own with
    | false => exact fsh (m := m1 (oRev false) (den φ κ a).E) (PE.weak (pe_rev ha) (by rw [hK]; exact w_1 (u_rev (own := false)))) rfl rfl rfl rfl rfl rfl t rfl
    | true => exact fow (m := m1 (oRev true) (den φ κ a).E) (PE.weak (pe_rev ha) (by rw [hK]; exact w_1 (u_rev (own := true)))) rfl rfl rfl rfl rfl rfl t rfl
  · cases h
theorem ok_np : Ok Γ φ κ .np := by
  intro lvl G sc fn X tg h X0
  unfold chk at h
  split at h
  · exact po_no
  · cases h
theorem ok_pt {a : C} (oa : Ok Γ φ κ a) : Ok Γ φ κ (.pt a) := by
  intro lvl G sc fn X tg h X0
  unfold chk at h
  split at h
  · simp only [Bool.and_eq_true] at h
    exact po_pt (oa.br h.2 h.1 X0)
  · cases h
/-- one argument, to a built-in -/
theorem w_c1 {G : Cn} {k : Kd} {op : D → Option D} {r : List V → Hp → VK → Prop} {m : ME} (hu : U1 G k op (fun x H Q => r [x] H Q)) (σ : L2.St) (H : Hp) (Q : VK) (q : T G k true (m1 op m) σ H Q) : tCB r (L2.tCons (T G .br true m) L2.tNil) σ H Q := by
  exact w_1 hu σ H Q q
theorem ok_c1 (f : UO) {a : C} (oa : Ok Γ φ κ a) : Ok Γ φ κ (.c1 f a) := by
  intro lvl G sc fn X tg h X0
  obtain ⟨t, x, rfl, hq⟩ := onE_of h
  replace h := hq
  split at h
  · simp only [Bool.and_eq_true, decide_eq_true_eq] at h
    obtain ⟨⟨⟨⟨h1, h2⟩, h3⟩, h4⟩, h5⟩ := h
    subst h1
    have hK := X0.K
    have hg := (X0.gl h2).1
    have ha := pa_cons (oa.br h5 h4 X0) pa_nil (star_of h3)
    refine fsh (m := m1 (uop f) (den φ κ a).E) ?_ rfl rfl rfl rfl rfl rfl t rfl
    cases f with
    | len => exact PE.weak (pe_callB (call_len_seq) hg (X0.mg _ (by decide +kernel)) rfl ha (by decide) (by decide) (star_of h3) rfl) (w_c1 (by rw [hK]; exact u_len))
    | sum => exact PE.weak (pe_callB (cr_sum2 X0.calm) hg (X0.mg _ (by decide +kernel)) rfl ha (by decide) (by decide) (star_of h3) rfl) (w_c1 (by rw [hK]; exact u_sum))
    | all => exact PE.weak (pe_callB (cr_all X0.calm) hg (X0.mg _ (by decide +kernel)) rfl ha (by decide) (by decide) (star_of h3) rfl) (w_c1 (by rw [hK]; exact u_all))
    | any => exact PE.weak (pe_callB (cr_any X0.calm) hg (X0.mg _ (by decide +kernel)) rfl ha (by decide) (by decide) (star_of h3) rfl) (w_c1 (by rw [hK]; exact u_any))
    | tuple => exact PE.weak (pe_callTy call_tuple_of hg (X0.mg _ (by decide +kernel)) rfl ha (by decide) (by decide) (star_of h3) rfl) (w_c1 (by rw [hK]; exact u_tuple))
    | min => exact PE.weak (pe_callB (cr_min X0.calm) hg (X0.mg _ (by decide +kernel)) rfl ha (by decide) (by decide) (star_of h3) rfl) (w_c1 (by rw [hK]; exact u_minL))
    | max => exact PE.weak (pe_callB (cr_max X0.calm) hg (X0.mg _ (by decide +kernel)) rfl ha (by decide) (by decide) (star_of h3) rfl) (w_c1 (by rw [hK]; exact u_maxL))
    | int => exact PE.weak (pe_callTy call_int1 hg (X0.mg _ (by decide +kernel)) rfl ha (by decide) (by decide) (star_of h3) rfl) (w_c1 u_int)
    | abs => exact PE.weak (pe_callB call_abs hg (X0.mg _ (by decide +kernel)) rfl ha (by decide) (by decide) (star_of h3) rfl) (w_c1 u_abs)
  · cases h
theorem ok_list {a : C} (oa : Ok Γ φ κ a) : Ok Γ φ κ (.list a) := by
  intro lvl G sc fn X tg h X0
  obtain ⟨t, x, rfl, hq⟩ := onE_of h
  replace h := hq
  split at h
  · simp only [Bool.and_eq_true, decide_eq_true_eq] at h
    obtain ⟨⟨⟨⟨h1, h2⟩, h3⟩, h4⟩, h5⟩ := h
    subst h1
    have hK := X0.K
    have hg := (X0.gl h2).1
    have ha := pa_cons (oa.br h5 h4 X0) pa_nil (star_of h3)
    refine fow (m := m1 oList (den φ κ a).E) ?_ rfl rfl rfl rfl rfl rfl t rfl
    exact PE.weak (pe_callTy call_list_of hg (X0.mg _ (by decide +kernel)) rfl ha (by decide) (by decide) (star_of h3) rfl) (w_c1 (by rw [hK]; exact u_list))
  · cases h
theorem cr_sortF {X : Cx} (hu : X.A.units + 80 < cLine) : CallR X (.builtin "sorted") (fun xs H Q => ∃ F x, xs = [x] ∧ rSortE X.K F x H Q) := by
  intro pins s σ H xs us Q I r h
  obtain ⟨F, h⟩ := h
  exact cr_sort hu F pins s σ H xs us Q I r h
theorem ok_sorted {a : C} (oa : Ok Γ φ κ a) : Ok Γ φ κ (.sorted a) := by
  intro lvl G sc fn X tg h X0
  obtain ⟨t, x, rfl, hq⟩ := onE_of h
  replace h := hq
  split at h
  · simp only [Bool.and_eq_true, decide_eq_true_eq] at h
    obtain ⟨⟨⟨⟨h1, h2⟩, h3⟩, h4⟩, h5⟩ := h
    subst h1
    have hK := X0.K
    have hu := X0.room.un
    have hg := (X0.gl h2).1
    have ha := pa_cons (oa.br h5 h4 X0) pa_nil (star_of h3)
    refine fow (m := m1 oSort (den φ κ a).E) ?_ rfl rfl rfl rfl rfl rfl t rfl
    refine PE.weak (pe_callB (cr_sortF (by omega)) hg (X0.mg _ (by decide +kernel)) rfl ha (by decide) (by decide) (star_of h3) rfl) (w_c1 (r := fun xs H Q => ∃ F x, xs = [x] ∧ rSortE X.K F x H Q) ?_)
    intro st σ H O v d d' Q S hv ho q
    obtain ⟨F, z⟩ := u_sort (st0 := st) S hv ho q
    exact ⟨F, v, rfl, by rw [hK]; exact z⟩
  · cases h
theorem ok_isi (ts : List TN) {a : C} (oa : Ok Γ φ κ a) : Ok Γ φ κ (.isi ts a) := by
  intro lvl G sc fn X tg h X0
  obtain ⟨t, x, rfl, hq⟩ := onE_of h
  replace h := hq
  split at h
  · split at h
    · rename_i tn
      simp only [Bool.and_eq_true, decide_eq_true_eq] at h
      obtain ⟨⟨⟨⟨⟨⟨h1, h2⟩, h6⟩, h7⟩, h3⟩, h4⟩, h5⟩ := h
      subst h1
      subst h6
      have hK := X0.K
      have hg := (X0.gl h2).1
      have hg2 := (X0.gl h7).1
      refine fsh (m := m1 (oIsi [tn]) (den φ κ a).E) ?_ rfl rfl rfl rfl rfl rfl t rfl
      rename_i p0 y p1 p2 _
      have ht : PE X (.Name tn.name p1) (tC (.ty tn.ty)) := by
        cases tn with
        | int => exact pe_bltn hg2 (X0.mg _ (by decide +kernel)) rfl rfl
        | bool => exact pe_bltn hg2 (X0.mg _ (by decide +kernel)) rfl rfl
        | str => exact pe_bltn hg2 (X0.mg _ (by decide +kernel)) rfl rfl
        | tup => exact pe_bltn hg2 (X0.mg _ (by decide +kernel)) rfl rfl
        | lst => exact pe_bltn hg2 (X0.mg _ (by decide +kernel)) rfl rfl
        | dct => exact pe_bltn hg2 (X0.mg _ (by decide +kernel)) rfl rfl
      have ha := pa_cons (oa.br h5 h4 X0) (pa_cons ht pa_nil rfl) (star_of h3)
      exact PE.weak (pe_callB call_isi hg (X0.mg _ (by decide +kernel)) rfl ha (by decide) (by decide) (star_of h3) rfl) fun σ H Q q => by
        have z := w_1 (r := fun x H Q => rIsi G.K [x, .ty tn.ty] H Q) u_isi σ H Q q
        rw [hK]
        exact z
    · cases h
  · split at h
    · rename_i tn un
      simp only [Bool.and_eq_true, decide_eq_true_eq] at h
      obtain ⟨⟨⟨⟨⟨⟨⟨⟨h1, h2⟩, h6⟩, h7⟩, h8⟩, h9⟩, h3⟩, h4⟩, h5⟩ := h
      subst h1
      subst h6
      subst h8
      have hK := X0.K
      have hg := (X0.gl h2).1
      refine fsh (m := m1 (oIsi [tn, un]) (den φ κ a).E) ?_ rfl rfl rfl rfl rfl rfl t rfl
      have bt : ∀ (tn : TN) (p1 : Pos), Gl X tn.name → PE X (.Name tn.name p1) (tC (.ty tn.ty)) := fun tn p1 hg2 => by
        cases tn with
        | int => exact pe_bltn hg2 (X0.mg _ (by decide +kernel)) rfl rfl
        | bool => exact pe_bltn hg2 (X0.mg _ (by decide +kernel)) rfl rfl
        | str => exact pe_bltn hg2 (X0.mg _ (by decide +kernel)) rfl rfl
        | tup => exact pe_bltn hg2 (X0.mg _ (by decide +kernel)) rfl rfl
        | lst => exact pe_bltn hg2 (X0.mg _ (by decide +kernel)) rfl rfl
        | dct => exact pe_bltn hg2 (X0.mg _ (by decide +kernel)) rfl rfl
      have ht := fun {x1 : Nat} {pos : Pos} {p1 p2 : Pos} => pe_tup (x1 := x1) (pos := pos) (pa_cons (bt tn p1 (X0.gl h7).1) (pa_cons (bt un p2 (X0.gl h9).1) pa_nil rfl) rfl)
      rename_i q4 y q3 q2 kk q1 q0 _
      have ha := pa_cons (oa.br h5 h4 X0) (pa_cons (ht (x1 := kk) (pos := q1) (p1 := q3) (p2 := q2)) pa_nil rfl) (star_of h3)
      exact PE.weak (pe_callB call_isiT hg (X0.mg _ (by decide +kernel)) rfl ha (by decide) (by decide) (star_of h3) rfl) fun σ H Q q => by
        have z := w_1 (r := fun x H Q => ∀ p, H p = none → rIsiT G.K [x, .ref p] (upd H p (.tup [.ty tn.ty, .ty un.ty])) Q) u_isiT σ H Q q
        rw [hK]
        obtain ⟨st, O, S, z⟩ := z
        refine ⟨st, O, S, R.all_mono (fun x z v H1 O1 s1 S1 r1 => ?_) z⟩
        exact ⟨(show 2 ≤ sizeLine by decide), fun p np => z v H1 O1 s1 S1 r1 p np⟩
    · cases h
  · cases h
theorem ok_mm (f : Bool) {a b : C} (oa : Ok Γ φ κ a) (ob : Ok Γ φ κ b) : Ok Γ φ κ (.mm f a b) := by
  intro lvl G sc fn X tg h X0
  obtain ⟨t, x, rfl, hq⟩ := onE_of h
  replace h := hq
  split at h
  · simp only [Bool.and_eq_true, decide_eq_true_eq] at h
    obtain ⟨⟨⟨⟨⟨⟨⟨h1, h2⟩, h3⟩, h4⟩, h5⟩, h6⟩, h7⟩, h8⟩ := h
    subst h1
    rename_i p0 y z p1
    have hg := (X0.gl h2).1
    have ha := pa_cons (oa.br h7 h5 X0) (pa_cons (ob.br h8 h6 X0) pa_nil (star_of h4)) (star_of h3)
    refine fsh (m := m2 (mmop f) (den φ κ a).E (den φ κ b).E) ?_ rfl rfl rfl rfl rfl rfl t rfl
    have hp : ∀ p, (backTo p (starEach [z] X.env)).any (·.1) = false := fun p => plain_back (es := [z]) (by simp [h4])
    cases f with
    | true => exact PE.weak (pe_callB (call_min2 X0.calm) hg (X0.mg _ (by decide +kernel)) rfl ha (by decide) (by decide) (star_of h3) (hp _)) (w_c2 u_min2)
    | false => exact PE.weak (pe_callB (call_max2 X0.calm) hg (X0.mg _ (by decide +kernel)) rfl ha (by decide) (by decide) (star_of h3) (hp _)) (w_c2 u_max2)
  · cases h
theorem ok_pop (i : Nat) : Ok Γ φ κ (.pop i) := by
  intro lvl G sc fn X tg h X0
  unfold chk at h
  split at h
  · simp only [Bool.and_eq_true, decide_eq_true_eq] at h
    obtain ⟨⟨⟨⟨h1, h2⟩, h3⟩, h4⟩, h5⟩ := h
    subst h1
    obtain ⟨v1, v2, v3⟩ := X0.vis h4
    have hK := X0.K
    refine PEA.of (PE.weak (pe_bm0 PySem.F.plainAttrs_list PySem.F.slot_list_pop PySem.F.type_list_pop mt_pop (pe_var (X0.nm h3) v1 v2 v3) rfl h2) ?_) rfl
    rw [hK]
    exact w_pop (X0.k1 h5)
  · cases h
theorem ok_popAt (i : Nat) {a : C} (oa : Ok Γ φ κ a) : Ok Γ φ κ (.popAt i a) := by
  intro lvl G sc fn X tg h X0
  unfold chk at h
  split at h
  · simp only [Bool.and_eq_true, decide_eq_true_eq] at h
    obtain ⟨⟨⟨⟨⟨⟨⟨h1, h2⟩, h3⟩, h4⟩, h5⟩, h6⟩, h7⟩, h8⟩ := h
    subst h1
    obtain ⟨v1, v2, v3⟩ := X0.vis h4
    have hK := X0.K
    refine PEA.of (PE.weak (pe_bm PySem.F.plainAttrs_list PySem.F.slot_list_pop PySem.F.type_list_pop mt_popAt (pe_var (X0.nm h3) v1 v2 v3) (pa_cons (toSh h7 (oa.pe h8 X0)) pa_nil (star_of h6)) rfl (by rw [star_of h6]; rfl) h2 (star_of h6) rfl) ?_) rfl
    rw [hK]
    exact w_popAt (X0.k1 h5)
  · cases h
theorem ok_rep {a b : C} (oa : Ok Γ φ κ a) (ob : Ok Γ φ κ b) : Ok Γ φ κ (.rep a b) := by
  intro lvl G sc fn X tg h X0
  obtain ⟨t, x, rfl, hq⟩ := onE_of h
  replace h := hq
  split at h
  · simp only [Bool.and_eq_true] at h
    obtain ⟨⟨⟨⟨h1, h2⟩, h3⟩, h4⟩, h5⟩ := h
    have ha := toOw h1 (oa.pe h4 X0)
    rw [h2] at ha
    exact fow (m := m2 oRepL (den φ κ a).E (den φ κ b).E) (PE.weak (pe_op op_rep ha (ob.br h5 h3 X0)) w_rep) rfl rfl rfl rfl rfl rfl t rfl
  · cases h
theorem ok_sset {a : C} (oa : Ok Γ φ κ a) : Ok Γ φ κ (.sset a) := by
  intro lvl G sc fn X tg h X0
  obtain ⟨t, x, rfl, hq⟩ := onE_of h
  replace h := hq
  split at h
  · simp only [Bool.and_eq_true, decide_eq_true_eq] at h
    obtain ⟨⟨⟨⟨⟨⟨h1, h2⟩, h3⟩, h4⟩, h5⟩, h6⟩, h7⟩ := h
    subst h1
    subst h2
    have hK := X0.K
    have hu := X0.room.un
    have hg := (X0.gl h3).1
    have hg2 := (X0.gl h4).1
    have ha := pa_cons (oa.br h7 h6 X0) pa_nil (star_of h5)
    refine fow (m := m1 oSSet2 (den φ κ a).E) ?_ rfl rfl rfl rfl rfl rfl t rfl
    have hs := fun {p q} => pe_callTy (p := p) (pos := q) (cr_or (cr_setOfT X0.calm (by omega)) (cr_setI X0.calm)) hg2 (X0.mg _ (by decide +kernel)) rfl ha (by decide) (by decide) (star_of h5) rfl
    exact PE.weak (pe_callB (cr_or (cr_sortedT X0.calm) (cr_sortedSet X0.calm)) hg (X0.mg _ (by decide +kernel)) rfl (pa_cons hs pa_nil rfl) (by decide) (by decide) rfl rfl) (by rw [hK]; exact w_1 u_sset2)
  · cases h
theorem ok_lset {a : C} (oa : Ok Γ φ κ a) : Ok Γ φ κ (.lset a) := by
  intro lvl G sc fn X tg h X0
  obtain ⟨t, x, rfl, hq⟩ := onE_of h
  replace h := hq
  split at h
  · simp only [Bool.and_eq_true, decide_eq_true_eq] at h
    obtain ⟨⟨⟨⟨⟨⟨h1, h2⟩, h3⟩, h4⟩, h5⟩, h6⟩, h7⟩ := h
    subst h1
    subst h2
    have hK := X0.K
    have hu := X0.room.un
    have hg := (X0.gl h3).1
    have hg2 := (X0.gl h4).1
    have ha := pa_cons (oa.br h7 h6 X0) pa_nil (star_of h5)
    refine fsh (m := m1 oLSet (den φ κ a).E) ?_ rfl rfl rfl rfl rfl rfl t rfl
    have hs := fun {p q} => pe_callTy (p := p) (pos := q) (cr_or (cr_setOfT X0.calm (by omega)) (cr_setI X0.calm)) hg2 (X0.mg _ (by decide +kernel)) rfl ha (by decide) (by decide) (star_of h5) rfl
    exact PE.weak (pe_callB (cr_lenS X0.calm) hg (X0.mg _ (by decide +kernel)) rfl (pa_cons hs pa_nil rfl) (by decide) (by decide) rfl rfl) (by rw [hK]; exact w_1 u_lset)
  · cases h
theorem ok_dic1 {k v : C} (ok : Ok Γ φ κ k) (ov : Ok Γ φ κ v) : Ok Γ φ κ (.dic1 k v) := by
  intro lvl G sc fn X tg h X0
  obtain ⟨t, x, rfl, hq⟩ := onE_of h
  replace h := hq
  split at h
  · simp only [Bool.and_eq_true] at h
    obtain ⟨⟨⟨⟨⟨h1, h2⟩, h3⟩, h4⟩, h5⟩, h6⟩ := h
    exact fsh (m := mDic (den φ κ k).E (den φ κ v).E) (pe_dic (ok.sh h5 h1 h2 X0) (ov.sh h6 h3 h4 X0)) rfl rfl rfl rfl rfl rfl t rfl
  · cases h
theorem ok_cat {a b : C} (oa : Ok Γ φ κ a) (ob : Ok Γ φ κ b) : Ok Γ φ κ (.cat a b) := by
  intro lvl G sc fn X tg h X0
  obtain ⟨t, x, rfl, hq⟩ := onE_of h
  replace h := hq
  split at h
  · simp only [Bool.and_eq_true] at h
    obtain ⟨⟨⟨h2, h3⟩, h4⟩, h5⟩ := h
    exact fow (m := m2 oCatL (den φ κ a).E (den φ κ b).E) (PE.weak (pe_op op_catL (oa.br h4 h2 X0) (ob.br h5 h3 X0)) (w_2 u_catL)) rfl rfl rfl rfl rfl rfl t rfl
  · cases h
end
end EV
namespace EV
open PySem PySem.Spec PyProof.Rows L2 RZ C8
section
variable {Γ : Gm} {φ : Nat → List D → R D} {κ : Nat → D}
theorem len_ok {sc : Scope} {fn : Str → Bool} : ∀ c es, chk Γ c sc fn (.l es) = true → ∀ st, ((den φ κ c).L st).pall fun p => p.1.length = es.length := by
  intro c
  induction c with
  | nil =>
    intro es h st
    cases es with
    | nil => rfl
    | cons e es => cases h
  | cons a b iha ihb =>
    intro es h st
    cases es with
    | nil => cases h
    | cons e es =>
      have h' := (Bool.and_eq_true_iff.mp (show (_ && chk Γ b sc fn (.l es)) = true from h)).2
      exact R.pall_bind (pall_any (fun p => R.pall_bind (R.pall_mono (fun q e => congrArg (· + 1) e) (ihb es h' p.2))) _)
  | _ => exact fun es h => nomatch h
theorem ok_fn (j : Nat) {l : C} (ol : Ok Γ φ κ l) : Ok Γ φ κ (.fn j l) := by
  intro lvl G sc fn X tg h X0
  unfold chk at h
  split at h
  · rename_i t n p0 y es pos
    split at h
    · rename_i x k ro ef
      simp only [Bool.and_eq_true, decide_eq_true_eq] at h
      obtain ⟨⟨⟨⟨⟨h1, h2⟩, h3⟩, h4⟩, h5⟩, h6⟩ := h
      subst h1
      have hl : PA X _ (TL G (puc l) (den φ κ l).L) := ol h6 X0
      have hn : ∀ st, ((den φ κ l).L st).pall fun p => p.1.length = k := by
        rw [h2]
        exact len_ok l _ h6
      have h4' := h4
      rw [List.all_cons, Bool.and_eq_true] at h4'
      have pe : PE X (.Call (.Name n p0) (y :: es) [] pos) (T G (kOf ro) (puc l) (mCall (φ j) (den φ κ l).L)) :=
        PE.weak (pe_c (X0.cal j n k ro ef) X0.room (Nat.le_refl _) (X0.gl h3).1 hl (X0.gl h3).2 (star_of h4'.1) (plain_back h4'.2)) fun σ H Q q => w_call σ H Q hn q
      have ek : kdc Γ (.fn j l) = kOf ro := by
        show (match Γ.funs[j]? with | some (_, _, ro) => kOf ro | none => Kd.sh) = _
        rw [ef]
      cases t with
      | false =>
        show PEA X _ (T G (kdc Γ (.fn j l)) (puc l) _)
        rw [ek]
        exact PEA.of pe rfl
      | true =>
        have hp : puc l = true := by simpa using h5
        rw [hp, ← ek] at pe
        exact ⟨t_val (toBr pe) rfl, fun z => nomatch z⟩
    · cases h
  · cases h
theorem ownP_snd {N : List Str} : ∀ {own : List Nat}, (ownP N own).map (·.2) = own
  | [] => rfl
  | _ :: own => congrArg _ (ownP_snd (own := own))
theorem ex_pe {X : Cx} {e : Expr} {t : (Addr → Prop) → TE} (h : ∀ B, PE X e (t B)) : PE X e (fun σ H Q => ∃ B, t B σ H Q) := ⟨fun pins s σ H Q I q => q.elim fun B q => (h B).run pins s σ H Q I q⟩
theorem ex_pts {X : Cx} {e : List Expr} {t : (Addr → Prop) → TT} (h : ∀ B, PTs X e (t B)) : PTs X e (fun σ H Q => ∃ B, t B σ H Q) := ⟨fun pins s σ H Q I q => q.elim fun B q => (h B).run pins s σ H Q I q⟩
theorem ex_pg {X : Cx} {e : Expr} {t : (Addr → Prop) → TG} (h : ∀ B, PG X e (t B)) : PG X e (fun v σ H Q => ∃ B, t B v σ H Q) := ⟨fun pins s σ H v u Q I r q => q.elim fun B q => (h B).run pins s σ H v u Q I r q⟩
def swC (sc : Scope) (scope : Scope) (y : Str) (py p : Pos) : Bool := (match sc.kind with | .function => true | _ => false) && lcl sc y && py.line == p.line && !(scope.names.any fun (n, k) => n == y && (k == .local || k == .cell))
theorem ok_lc (own : List Nat) (p : Pat) {s c e : C} (os : Ok Γ φ κ s) (oc : Ok Γ φ κ c) (oe : Ok Γ φ κ e) : Ok Γ φ κ (.lc own p s c e) := by
  intro lvl G sc fn X tg h X0
  obtain ⟨t, x, rfl, hq⟩ := onE_of h
  replace h := hq
  split at h
  · rename_i elt tgx iter ifs scope pos
    simp only [Bool.and_eq_true] at h
    obtain ⟨⟨⟨⟨⟨⟨⟨⟨⟨⟨⟨⟨h1, h2⟩, h3⟩, h4⟩, h5⟩, h6⟩, h7⟩, h8⟩, h9⟩, h10⟩, h11⟩, h12⟩, h13⟩ := h
    have hb : BlkOk X.N X.env.scope scope (ownP Γ.N own) := by rw [X0.N, X0.sc]; exact blkOk_by h1
    have hi : PI X tgx iter (TSrc G true true (den φ κ s).I) := by
      have := os h4 X0
      rw [show Snd Γ φ κ X G s (.i true tgx iter) = PI X tgx iter (TSrc G (puc s) true (den φ κ s).I) from rfl, h3] at this
      exact this
    have hg : ∀ (s : Shared) (H : Hp) (A : Addr) (cl : List (Str × Addr)) (fp : List Addr), PG (X.blk s H scope (compEnvC scope cl A X.env) fp) tgx (fun v σ H Q => ∃ B, TPat (G.at B) p v σ H Q) :=
      fun s H A cl fp => ex_pg fun B => chkP_ok ((X0.blk scope s H A cl fp).at B) p _ h5
    have he : ∀ (s : Shared) (H : Hp) (A : Addr) (cl : List (Str × Addr)) (fp : List Addr), PE (X.blk s H scope (compEnvC scope cl A X.env) fp) elt (fun σ H Q => ∃ B, T (G.at B) .sh true (den φ κ e).E σ H Q) :=
      fun s H A cl fp => ex_pe fun B => oe.sh h11 h9 h10 ((X0.blk scope s H A cl fp).at B)
    have ht : ∀ (s : Shared) (H : Hp) (A : Addr) (cl : List (Str × Addr)) (fp : List Addr), PTs (X.blk s H scope (compEnvC scope cl A X.env) fp) ifs (fun σ H Q => ∃ B, TB (G.at B) true (den φ κ c).T σ H Q) := by
      intro s H A cl fp
      refine ex_pts fun B => ?_
      split at h6
      · cases c with
        | yes => exact pts_y
        | _ => cases h6
      · exact pts_one (oc h6 ((X0.blk scope s H A cl fp).at B)).1
      · cases h6
    have wl : ∀ σ H Q, T G .ow true (mLc (den φ κ s).I p (den φ κ c).T (den φ κ e).E own) σ H Q → tLc (TSrc G true true (den φ κ s).I) (fun v σ H Q => ∃ B, TPat (G.at B) p v σ H Q) (fun σ H Q => ∃ B, TB (G.at B) true (den φ κ c).T σ H Q) (fun σ H Q => ∃ B, T (G.at B) .sh true (den φ κ e).E σ H Q) ((ownP Γ.N own).map (·.2)) σ H Q := by
      intro σ H Q q
      rw [ownP_snd]
      exact w_lc (G := G) (B := G.B) (fixC_ok φ c h7).2.1 (fixC_ok φ e h8).1 (fun j hj => of_decide_eq_true (List.all_eq_true.mp h12 j hj)) (fun j hj => X0.k0 (List.all_eq_true.mp h13 j hj))
        (fun B σ H Q q => ⟨B, q⟩) (fun B σ H Q q => ⟨B, q⟩) (fun B v σ H Q q => ⟨B, q⟩) σ H Q q
    have pe : PE X (.ListComp elt [⟨tgx, iter, ifs, 0⟩] scope pos) (T G .ow true (mLc (den φ κ s).I p (den φ κ c).T (den φ κ e).E own)) := PE.weak (pe_lc X0.calm X0.nd' hi hb hg ht he (fold_of h2)) wl
    cases t with
    | true => exact ⟨t_val (T.br_of_sh (T.sh_of_ow pe)) rfl, fun z => nomatch z⟩
    | false =>
      refine ⟨pe, fun {i y py spos} a b l d => ?_⟩
      have sw : swapsWith (.ListComp elt [⟨tgx, iter, ifs, 0⟩] scope pos) (some (.Name y py)) spos.line X.env = pure (X.env.blockKind == .function && X.env.kindOf y == some .local && py.line == pos.line && !(scope.names.any fun (n, k) => n == y && (k == .local || k == .cell))) := rfl
      cases ec : (X.env.blockKind == .function && X.env.kindOf y == some .local && py.line == pos.line && !(scope.names.any fun (n, k) => n == y && (k == .local || k == .cell))) with
      | false => exact ps_set a b l pe (by rw [sw, ec]) d
      | true =>
        have ec' := ec
        simp only [Bool.and_eq_true] at ec'
        have hy : X.env.scope.names.lookup y = some .local := by
          have := ec'.1.1.2
          exact eq_of_beq this
        exact PS.weak (ps_setLc X0.calm a b hy (by rw [sw, ec]) hi hb hg ht he (fold_of h2)) fun D σ H q => wl σ H _ q
  · cases h
theorem ok_seq {a : C} (oa : Ok Γ φ κ a) : Ok Γ φ κ (.seq a) := by
  intro lvl G sc fn X tg h X0
  unfold chk at h
  split at h
  · rename_i pl tgx x
    simp only [Bool.and_eq_true] at h
    have z := i_sh (tg := tgx) X0.K (toSh h.1 (oa.pe h.2 X0))
    cases pl with
    | false => exact z
    | true => exact i_pl z
  · cases h
theorem ok_seqB {a : C} (oa : Ok Γ φ κ a) : Ok Γ φ κ (.seqB a) := by
  intro lvl G sc fn X tg h X0
  unfold chk at h
  split at h
  · simp only [Bool.and_eq_true] at h
    exact i_br X0.K (oa.br h.2 h.1 X0)
  · cases h
theorem ok_r1 {a : C} (oa : Ok Γ φ κ a) : Ok Γ φ κ (.r1 a) := by
  intro lvl G sc fn X tg h X0
  unfold chk at h
  split at h
  · simp only [Bool.and_eq_true, decide_eq_true_eq] at h
    obtain ⟨⟨⟨⟨⟨h1, h2⟩, h3⟩, h4⟩, h5⟩, h6⟩ := h
    subst h1
    exact i_r1 (X0.gl h2).1 (X0.mg _ (by decide +kernel)) (oa.sh h6 h4 h5 X0) h3
  · cases h
theorem ok_r2 {a b : C} (oa : Ok Γ φ κ a) (ob : Ok Γ φ κ b) : Ok Γ φ κ (.r2 a b) := by
  intro lvl G sc fn X tg h X0
  unfold chk at h
  split at h
  · simp only [Bool.and_eq_true, decide_eq_true_eq] at h
    obtain ⟨⟨⟨⟨⟨⟨⟨⟨⟨h1, h2⟩, h3⟩, h4⟩, h5⟩, h6⟩, h7⟩, h8⟩, h9⟩, h10⟩ := h
    subst h1
    exact i_r2 (X0.gl h2).1 (X0.mg _ (by decide +kernel)) (oa.sh h9 h5 h6 X0) (ob.sh h10 h7 h8 X0) h3 h4
  · cases h
theorem ok_zip {a b : C} (oa : Ok Γ φ κ a) (ob : Ok Γ φ κ b) : Ok Γ φ κ (.zip a b) := by
  intro lvl G sc fn X tg h X0
  unfold chk at h
  split at h
  · rename_i pl _ _ _ _ _ _ _ _
    simp only [Bool.and_eq_true, decide_eq_true_eq] at h
    obtain ⟨⟨⟨⟨⟨⟨⟨⟨⟨h1, h2⟩, h3⟩, h4⟩, h5⟩, h6⟩, h7⟩, h8⟩, h9⟩, h10⟩ := h
    subst h1
    have z := fun {el kk tp p q} => i_zip (elts := el) (kk := kk) (tpos := tp) (p := p) (pos := q) X0.K (X0.gl h2).1 (X0.mg _ (by decide +kernel)) (oa.sh h9 h5 h6 X0) (ob.sh h10 h7 h8 X0) h3 h4
    cases pl with
    | false => exact z
    | true => exact i_pl z
  · cases h
theorem ok_enum {a : C} (oa : Ok Γ φ κ a) : Ok Γ φ κ (.enum a) := by
  intro lvl G sc fn X tg h X0
  unfold chk at h
  split at h
  · rename_i pl _ _ _ _ _ _ _
    simp only [Bool.and_eq_true, decide_eq_true_eq] at h
    obtain ⟨⟨⟨⟨h1, h2⟩, h3⟩, h4⟩, h5⟩ := h
    subst h1
    have z := fun {el kk tp p q} => i_enumT (elts := el) (kk := kk) (tpos := tp) (p := p) (pos := q) X0.K (X0.gl h2).1 (X0.mg _ (by decide +kernel)) (toSh h4 (oa.pe h5 X0)) h3
    cases pl with
    | false => exact z
    | true => exact i_pl z
  · cases h
end
end EV
namespace EV
open PySem PySem.Spec PyProof.Rows L2 RZ C8
theorem kind_eq {k : ScopeKind} (h : (match k with | .function => true | _ => false) = true) : k = .function := by
  cases k <;> first | rfl | cases h
theorem nostar_any {es : List Expr} (h : es.all notStar = true) : (es.any fun | .Starred .. => true | _ => false) = false := by
  induction es with
  | nil => rfl
  | cons e es ih =>
    rw [List.all_cons, Bool.and_eq_true] at h
    rw [List.any_cons, ih h.2]
    cases e <;> first | rfl | cases h.1
theorem sw2 {x y : Str} {px py pt pt2 : Pos} {a b : Expr} {kt k2 : Nat} {env : Env} (hk : env.scope.kind = .function) (hx : env.scope.names.lookup x = some .local) (hy : env.scope.names.lookup y = some .local) (hl : (py.line == px.line) = true) (hne : (x == y) = false) (hne2 : (y == x) = false)
    (hs : [a, b].all notStar = true) (hf : [a, b].all (foldedForSure 8) = false) (hc : [a, b].all (constantsAlone 8) = false) :
    swappedStores [.Tuple [.Name x px, .Name y py] kt pt] (.Tuple [a, b] k2 pt2) env = pure (some [x, y]) := by
  have hb : env.blockKind = .function := by unfold Env.blockKind; rw [hk]; rfl
  have kx : env.kindOf x = some .local := hx
  have ky : env.kindOf y = some .local := hy
  have hst := nostar_any hs
  have hn : [Expr.Name x px, Expr.Name y py].filterMap (fun | .Name id pos => if env.kindOf id == some .local && pos.line == px.line then some id else none | _ => none) = [x, y] := by
    have e1 : (px.line == px.line) = true := beq_self_eq_true _
    simp only [List.filterMap_cons, List.filterMap_nil, kx, ky, hl, e1]
    rfl
  have hd : ([x, y].eraseDups.length != [x, y].length) = false := by
    simp [List.eraseDups, List.eraseDupsBy, List.eraseDupsBy.loop, hne, hne2]
  unfold swappedStores
  refine Eq.trans (if_neg (by rw [hb]; exact fun z => Bool.false_ne_true z)) ?_
  refine Eq.trans (if_neg (by rw [Bool.not_eq_true]; exact hst)) ?_
  refine Eq.trans (if_neg (?_ : ¬ ((List.filterMap _ [Expr.Name x px, Expr.Name y py]).length != 2 || _) = true)) ?_
  · erw [hn]
    rw [Bool.not_eq_true, hd]
    rfl
  refine Eq.trans (if_neg (by rw [Bool.not_eq_true]; exact hf)) ?_
  refine Eq.trans (if_neg (by rw [Bool.not_eq_true]; exact hc)) ?_
  exact congrArg (fun l => (pure (some l) : Sem (Option (List Str)))) hn
theorem sw3 {x y z : Str} {px py pz pt pt2 : Pos} {a b c : Expr} {kt k2 : Nat} {env : Env} (hk : env.scope.kind = .function) (hx : env.scope.names.lookup x = some .local) (hy : env.scope.names.lookup y = some .local) (hz : env.scope.names.lookup z = some .local)
    (hl : (py.line == px.line) = true) (hl2 : (pz.line == px.line) = true) (hd : [x, y, z].eraseDups.length = 3)
    (hs : [a, b, c].all notStar = true) (hf : [a, b, c].all (foldedForSure 8) = false) (hc : [a, b, c].all (constantsAlone 8) = false) :
    swappedStores [.Tuple [.Name x px, .Name y py, .Name z pz] kt pt] (.Tuple [a, b, c] k2 pt2) env = pure (some [x, y, z]) := by
  have hb : env.blockKind = .function := by unfold Env.blockKind; rw [hk]; rfl
  have kx : env.kindOf x = some .local := hx
  have ky : env.kindOf y = some .local := hy
  have kz : env.kindOf z = some .local := hz
  have hst := nostar_any hs
  have hn : [Expr.Name x px, Expr.Name y py, Expr.Name z pz].filterMap (fun | .Name id pos => if env.kindOf id == some .local && pos.line == px.line then some id else none | _ => none) = [x, y, z] := by
    have e1 : (px.line == px.line) = true := beq_self_eq_true _
    simp only [List.filterMap_cons, List.filterMap_nil, kx, ky, kz, hl, hl2, e1]
    rfl
  have hd : ([x, y, z].eraseDups.length != [x, y, z].length) = false := by
    rw [hd]
    rfl
  unfold swappedStores
  refine Eq.trans (if_neg (by rw [hb]; exact fun z => Bool.false_ne_true z)) ?_
  refine Eq.trans (if_neg (by rw [Bool.not_eq_true]; exact hst)) ?_
  refine Eq.trans (if_neg (?_ : ¬ ((List.filterMap _ [Expr.Name x px, Expr.Name y py, Expr.Name z pz]).length != 3 || _) = true)) ?_
  · erw [hn]
    rw [Bool.not_eq_true, hd]
    rfl
  refine Eq.trans (if_neg (by rw [Bool.not_eq_true]; exact hf)) ?_
  refine Eq.trans (if_neg (by rw [Bool.not_eq_true]; exact hc)) ?_
  exact congrArg (fun l => (pure (some l) : Sem (Option (List Str)))) hn
theorem if4 {α : Type} {c1 c2 c3 c4 : Prop} [Decidable c1] [Decidable c2] [Decidable c3] [Decidable c4] {n e : α} (h : c1 ∨ c3 ∨ c4) : (if c1 then n else if c2 then n else if c3 then n else if c4 then n else e) = n := by
  by_cases h1 : c1
  · exact if_pos h1
  · rw [if_neg h1]
    by_cases h2 : c2
    · exact if_pos h2
    · rw [if_neg h2]
      by_cases h3 : c3
      · exact if_pos h3
      · rw [if_neg h3]
        exact if_pos ((h.resolve_left h1).resolve_left h3)
theorem fm_len {α β : Type} {f : α → Option β} : ∀ {l : List α}, (l.any fun a => (f a).isNone) = true → (l.filterMap f).length < l.length
  | a :: l, h => by
    rw [List.any_cons, Bool.or_eq_true] at h
    rw [List.filterMap_cons]
    cases e : f a with
    | none => exact Nat.lt_succ_of_le (List.length_filterMap_le f l)
    | some b =>
      rw [e] at h
      exact Nat.succ_lt_succ (fm_len (h.resolve_left (fun z => nomatch z)))
theorem sw_len {ts es : List Expr} {b : Bool} (h : (!(es.length == 2 || es.length == 3)) = true) : (!(ts.length == 2 || ts.length == 3) || es.length != ts.length || b) = true := by
  by_cases e : es.length = ts.length
  · rw [← e, h]; rfl
  · simp [e]
theorem any_imp {α : Type} {f g : α → Bool} {l : List α} (h : ∀ a, f a = true → g a = true) (e : l.any f = true) : l.any g = true := by
  obtain ⟨a, ha, hf⟩ := List.any_eq_true.mp e
  exact List.any_eq_true.mpr ⟨a, ha, h a hf⟩
theorem sw_none {t y : Expr} {env : Env} (h : swN env.scope t y = true) : swappedStores [t] y env = pure none := by
  unfold swN at h
  rw [Bool.or_eq_true] at h
  cases y with
  | Tuple es k p =>
    have h' : (!(es.length == 2 || es.length == 3)) = true ∨ anyN env.scope t = true ∨ es.all (foldedForSure 8) = true := by
      rcases h with h | h
      · unfold notTup at h
        rw [Bool.or_eq_true] at h
        exact h.imp id .inr
      · exact .inr (.inl h)
    cases t with
    | Tuple ts k2 p2 =>
      unfold swappedStores
      refine if4 (h'.imp sw_len (Or.imp (fun z => ?_) id))
      rw [Bool.or_eq_true]
      left
      rw [bne_iff_ne]
      refine Nat.ne_of_lt (fm_len (any_imp (fun x hx => ?_) z))
      cases x with
      | Name n pos =>
        have hx' : (!(lcl env.scope n)) = true := hx
        show (if env.kindOf n == some .local && _ then some n else none).isNone = true
        have : (env.kindOf n == some .local) = false := by
          unfold lcl at hx'
          show (env.scope.names.lookup n == some .local) = false
          cases e : env.scope.names.lookup n with
          | none => rfl
          | some k => rw [e] at hx'; cases k <;> first | rfl | cases hx'
        rw [this]
        rfl
      | _ => rfl
    | List ts p2 =>
      unfold swappedStores
      exact if4 (h'.imp sw_len fun z => .inr (z.resolve_left fun q => nomatch q))
    | _ => rfl
  | _ => cases t <;> rfl
section
variable {Γ : Gm} {φ : Nat → List D → R D} {κ : Nat → D}
theorem ok_skip : Ok Γ φ κ .skip := by
  intro lvl G sc fn X tg h X0
  unfold chk at h
  split at h
  · exact s_nil
  · cases h
theorem ok_sq {a b : C} (oa : Ok Γ φ κ a) (ob : Ok Γ φ κ b) : Ok Γ φ κ (.sq a b) := by
  intro lvl G sc fn X tg h X0
  unfold chk at h
  split at h
  · rename_i ro s r
    rw [Bool.and_eq_true] at h
    exact s_cons (oa (tg := .s ro s) h.1 X0) (ob (tg := .b ro r) h.2 X0)
  · cases h
theorem ok_pass : Ok Γ φ κ .pass := by
  intro lvl G sc fn X tg h X0
  obtain ⟨t, x, rfl, hq⟩ := onS_of h
  replace h := hq
  split at h
  · exact s_pass
  · cases h
theorem ok_brk : Ok Γ φ κ .brk := by
  intro lvl G sc fn X tg h X0
  obtain ⟨t, x, rfl, hq⟩ := onS_of h
  replace h := hq
  split at h
  · exact s_brk
  · cases h
theorem ok_cnt : Ok Γ φ κ .cnt := by
  intro lvl G sc fn X tg h X0
  obtain ⟨t, x, rfl, hq⟩ := onS_of h
  replace h := hq
  split at h
  · exact s_cnt
  · cases h
theorem ok_ret {a : C} (oa : Ok Γ φ κ a) : Ok Γ φ κ (.ret a) := by
  intro lvl G sc fn X tg h X0
  obtain ⟨ro, x, rfl, hq⟩ := onS_of h
  replace h := hq
  split at h
  · rw [Bool.and_eq_true] at h
    cases ro with
    | true => exact s_ret (ro := true) (toOw h.1 (oa.pe h.2 X0))
    | false => exact s_ret (ro := false) (toSh h.1 (oa.pe h.2 X0))
  · cases h
theorem ok_retN : Ok Γ φ κ .retN := by
  intro lvl G sc fn X tg h X0
  obtain ⟨ro, x, rfl, hq⟩ := onS_of h
  replace h := hq
  split at h
  · cases ro with
    | true => cases h
    | false => exact s_retN
  · cases h
theorem ok_ifs {t a b : C} (ot : Ok Γ φ κ t) (oa : Ok Γ φ κ a) (ob : Ok Γ φ κ b) : Ok Γ φ κ (.ifs t a b) := by
  intro lvl G sc fn X tg h X0
  obtain ⟨ro, x, rfl, hq⟩ := onS_of h
  replace h := hq
  split at h
  · rename_i w y z p
    simp only [Bool.and_eq_true] at h
    exact s_if (ot h.1.1 X0).1 (oa (tg := .b ro y) h.1.2 X0) (ob (tg := .b ro z) h.2 X0)
  · cases h
theorem w_asn {G : Cn} {ro pu : Bool} {i : Nat} {m : ME} (hk : G.kd i = false) (Dn : Ends) (σ : L2.St) (H : Hp) (q : TSm G ro (sAs (.nm i) m) Dn σ H) : tAsg (T G .sh pu m) (gName i) Dn σ H := by
  obtain ⟨st, O, S, q⟩ := q
  exact ⟨st, O, S, R.all_mono (fun x q v H1 O1 s1 S1 r1 => q _ H1 O1 s1.weak (S1.putS hk r1)) (R.all_bind q)⟩
theorem one_asg {t : Expr} {env : Env} (h : notStar t = true) : (assignEach [t] env).map (·.2) = [assign t env] := by
  cases t <;> first | rfl | cases h
theorem ok_asg (p : Pat) {a : C} (oa : Ok Γ φ κ a) : Ok Γ φ κ (.asg p a) := by
  intro lvl G sc fn X tg h X0
  obtain ⟨ro, x, rfl, hq⟩ := onS_of h
  replace h := hq
  split at h
  · rename_i t y pos
    simp only [Bool.and_eq_true] at h
    obtain ⟨⟨h1, h2⟩, h3⟩ := h
    have pa := peaSh h1 (show PEA X y (T G (kdc Γ a) (puc a) (den φ κ a).E) from oa h2 X0)
    split at h3
    · split at h3
      · simp only [Bool.and_eq_true] at h3
        obtain ⟨⟨g1, g2⟩, g3⟩ := h3
        exact PS.weak (pa.asg X0.nd' (X0.nm g1) (X0.loc g2).1 (X0.loc g2).2) (w_asn (X0.k0 g3))
      · cases h3
    · rename_i q
      simp only [Bool.and_eq_true] at h3
      obtain ⟨g1, g2⟩ := h3
      have hg : PG X t (TPat G (.tp q)) := chkP_ok X0 _ _ g1
      have hst : notStar t = true := by
        unfold chkP at g1
        split at g1
        · rename_i es k p0 e
          cases e
          rfl
        · cases g1
      have hswap : swapsWithSole [t] y pos.line X.env = pure false := by
        unfold chkP at g1
        split at g1
        · rename_i es k p0 e
          cases e
          cases y <;> rfl
        · cases g1
      exact PS.weak (ps_asg pa.pe hg hswap (sw_none (by rw [X0.sc]; exact g2)) (one_asg hst)) w_as
    · cases h3
  · cases h
theorem ok_aso (i : Nat) {a : C} (oa : Ok Γ φ κ a) : Ok Γ φ κ (.aso i a) := by
  intro lvl G sc fn X tg h X0
  obtain ⟨ro, x, rfl, hq⟩ := onS_of h
  replace h := hq
  split at h
  · rename_i n p0 y pos
    simp only [Bool.and_eq_true] at h
    obtain ⟨⟨⟨⟨h1, h2⟩, h3⟩, h4⟩, h5⟩ := h
    have pa := peaOw h4 (show PEA X y (T G (kdc Γ a) (puc a) (den φ κ a).E) from oa h5 X0)
    exact PS.weak (pa.asg X0.nd' (X0.nm h1) (X0.loc h2).1 (X0.loc h2).2) (w_ao (X0.k1 h3))
  · cases h
theorem ok_for {s b : C} (p : Pat) (os : Ok Γ φ κ s) (ob : Ok Γ φ κ b) : Ok Γ φ κ (.for_ s p b) := by
  intro lvl G sc fn X tg h X0
  obtain ⟨ro, x, rfl, hq⟩ := onS_of h
  replace h := hq
  split at h
  · rename_i t iter body pos
    simp only [Bool.and_eq_true] at h
    obtain ⟨⟨⟨h1, h2⟩, h3⟩, h4⟩ := h
    exact PS.weak (ps_for X0.pass X0.calm (os (tg := .i false t iter) h2 X0) (chkP_ok X0 p (.inl t) h3) (ob (tg := .b ro body) h4 X0) (fold_of h1)) w_for
  · cases h
theorem ok_wh (n : Nat) {t b : C} (ot : Ok Γ φ κ t) (ob : Ok Γ φ κ b) : Ok Γ φ κ (.wh n t b) := by
  intro lvl G sc fn X tg h X0
  obtain ⟨ro, x, rfl, hq⟩ := onS_of h
  replace h := hq
  split at h
  · rename_i w body pos
    rw [Bool.and_eq_true] at h
    exact PS.weak (ps_while X0.pass (ot h.1 X0).1 (ob (tg := .b ro body) h.2 X0)) w_wh
  · cases h
theorem ok_app (i : Nat) {a : C} (oa : Ok Γ φ κ a) : Ok Γ φ κ (.app i a) := by
  intro lvl G sc fn X tg h X0
  obtain ⟨ro, x, rfl, hq⟩ := onS_of h
  replace h := hq
  split at h
  · simp only [Bool.and_eq_true, decide_eq_true_eq] at h
    obtain ⟨⟨⟨⟨⟨⟨⟨h1, h2⟩, h3⟩, h4⟩, h5⟩, h6⟩, h7⟩, h8⟩ := h
    subst h1
    obtain ⟨v1, v2, v3⟩ := X0.vis h4
    have hK := X0.K
    exact PS.weak (ps_expr (pe_bm PySem.F.plainAttrs_list PySem.F.slot_list_append PySem.F.type_list_append mt_append (pe_var (X0.nm h3) v1 v2 v3) (pa_cons (toSh h7 (oa.pe h8 X0)) pa_nil (star_of h6)) rfl (by rw [star_of h6]; rfl) h2 (star_of h6) rfl) rfl) (by rw [hK]; exact w_app (X0.k1 h5))
  · cases h
theorem ok_ext (i : Nat) {a : C} (oa : Ok Γ φ κ a) : Ok Γ φ κ (.ext i a) := by
  intro lvl G sc fn X tg h X0
  obtain ⟨ro, x, rfl, hq⟩ := onS_of h
  replace h := hq
  split at h
  · simp only [Bool.and_eq_true, decide_eq_true_eq] at h
    obtain ⟨⟨⟨⟨⟨⟨⟨h1, h2⟩, h3⟩, h4⟩, h5⟩, h6⟩, h7⟩, h8⟩ := h
    subst h1
    obtain ⟨v1, v2, v3⟩ := X0.vis h4
    have hK := X0.K
    exact PS.weak (ps_expr (pe_bm PySem.F.plainAttrs_list PySem.F.slot_list_extend PySem.F.type_list_extend mt_extend (pe_var (X0.nm h3) v1 v2 v3) (pa_cons (toOw h7 (oa.pe h8 X0)) pa_nil (star_of h6)) rfl (by rw [star_of h6]; rfl) h2 (star_of h6) rfl) rfl) (by rw [hK]; exact w_ext (X0.k1 h5))
  · cases h
theorem ok_nev : Ok Γ φ κ .nev := by
  intro lvl G sc fn X tg h X0
  unfold chk at h
  split at h
  · exact PS.weak ps_never fun D σ H q => by obtain ⟨_, _, _, q⟩ := q; exact q.elim
  · exact PSs.weak pss_never fun D σ H q => by obtain ⟨_, _, _, q⟩ := q; exact q.elim
  · cases h
theorem ok_fgt (ks : List Nat) {a : C} (oa : Ok Γ φ κ a) : Ok Γ φ κ (.fgt ks a) := by
  intro lvl G sc fn X tg h X0
  unfold chk at h
  split at h
  · rename_i ro x
    exact PS.weak (oa (tg := .s ro x) h X0) w_fgt
  · rename_i ro xs
    exact PSs.weak (oa (tg := .b ro xs) h X0) w_fgt
  · cases h
theorem ok_doc : Ok Γ φ κ .doc := by
  intro lvl G sc fn X tg h X0
  obtain ⟨ro, x, rfl, hq⟩ := onS_of h
  replace h := hq
  split at h
  · exact PS.weak ps_doc fun D σ H q => by
      obtain ⟨st, O, S, q⟩ := q
      exact q σ H O Stp.refl S
  · cases h
theorem ok_drp {a : C} (oa : Ok Γ φ κ a) : Ok Γ φ κ (.drp a) := by
  intro lvl G sc fn X tg h X0
  obtain ⟨ro, x, rfl, hq⟩ := onS_of h
  replace h := hq
  split at h
  · simp only [Bool.and_eq_true] at h
    obtain ⟨⟨h1, h2⟩, h3⟩ := h
    exact PS.weak (ps_expr (toSh h2 (oa.pe h3 X0)) (sw_no h1)) w_drp
  · cases h
theorem ok_par (is : List Nat) {l : C} (ol : Ok Γ φ κ l) : Ok Γ φ κ (.par is l) := by
  intro lvl G sc fn X tg h X0
  obtain ⟨ro, x, rfl, hq⟩ := onS_of h
  replace h := hq
  split at h
  · rename_i ts k1 p1 es k2 p2 pos
    rw [Bool.and_eq_true] at h
    have hl : PA X es (TL G (puc l) (den φ κ l).L) := ol (tg := .l es) h.2 X0
    have h1 := h.1
    unfold parB at h1
    simp only [Bool.and_eq_true, Bool.not_eq_true'] at h1
    obtain ⟨⟨⟨⟨g1, g2⟩, g3⟩, g4⟩, g5⟩ := h1
    have hk : X.env.scope.kind = .function := by rw [X0.sc]; exact kind_eq g2
    split at g1
    · simp only [Bool.and_eq_true, Bool.not_eq_true'] at g1
      obtain ⟨⟨⟨⟨⟨⟨⟨⟨⟨a1, a2⟩, a3⟩, a4⟩, a5⟩, a6⟩, a7⟩, a8⟩, a9⟩, a10⟩ := g1
      have k5 : G.kd _ = false := X0.k0 (by rw [a5]; rfl)
      have k6 : G.kd _ = false := X0.k0 (by rw [a6]; rfl)
      exact PS.weak (ps_par X0.calm X0.nd' (X0.nm a1) (X0.nm a2) (by simpa using a7) (X0.lcl a3) (X0.lcl a4) hl (sw2 hk (X0.lcl a3) (X0.lcl a4) a10 a8 a9 g3 g4 g5) rfl) (w_par2 k5 k6)
    · simp only [Bool.and_eq_true, Bool.not_eq_true', decide_eq_true_eq] at g1
      obtain ⟨⟨⟨⟨⟨⟨⟨⟨⟨⟨⟨⟨⟨⟨a1, a2⟩, a3⟩, a4⟩, a5⟩, a6⟩, a7⟩, a8⟩, a9⟩, b1⟩, b2⟩, b3⟩, b4⟩, b5⟩, b6⟩ := g1
      have k5 : G.kd _ = false := X0.k0 (by rw [a7]; rfl)
      have k6 : G.kd _ = false := X0.k0 (by rw [a8]; rfl)
      have k7 : G.kd _ = false := X0.k0 (by rw [a9]; rfl)
      exact PS.weak (ps_par3 X0.calm X0.nd' (X0.nm a1) (X0.nm a2) (X0.nm a3) (by simpa using b1) (by simpa using b2) (by simpa using b3) (X0.lcl a4) (X0.lcl a5) (X0.lcl a6) hl (sw3 hk (X0.lcl a4) (X0.lcl a5) (X0.lcl a6) b5 b6 b4 g3 g4 g5) rfl) (w_par3 k5 k6 k7)
    · cases g1
  · cases h
theorem ok_aug (f : Bool) (i : Nat) {a : C} (oa : Ok Γ φ κ a) : Ok Γ φ κ (.aug f i a) := by
  intro lvl G sc fn X tg h X0
  obtain ⟨ro, x, rfl, hq⟩ := onS_of h
  replace h := hq
  split at h
  · simp only [Bool.and_eq_true] at h
    obtain ⟨⟨⟨⟨⟨h1, h2⟩, h3⟩, h4⟩, h5⟩, h6⟩ := h
    have ha := toSh h5 (oa.pe h6 X0)
    split at h1
    · exact PS.weak (ps_aug X0.nd' (X0.nm h2) (X0.loc h3).1 ha ip_add (X0.loc h3).2) (w_aug (X0.k0 h4))
    · exact PS.weak (ps_aug X0.nd' (X0.nm h2) (X0.loc h3).1 ha ip_sub (X0.loc h3).2) (w_aug (X0.k0 h4))
    · cases h1
  · cases h
theorem sw_sub {o z y : Expr} {p : Pos} {env : Env} : swappedStores [.Subscript o z p] y env = pure none := by
  cases y <;> rfl
theorem ok_set (i : Nat) {k v : C} (ok : Ok Γ φ κ k) (ov : Ok Γ φ κ v) : Ok Γ φ κ (.set i k v) := by
  intro lvl G sc fn X tg h X0
  obtain ⟨ro, x, rfl, hq⟩ := onS_of h
  replace h := hq
  split at h
  · rename_i n p1 z p2 y pos
    simp only [Bool.and_eq_true] at h
    obtain ⟨⟨⟨⟨⟨⟨⟨⟨⟨h1, h2⟩, h3⟩, h4⟩, h5⟩, h6⟩, h7⟩, h8⟩, h9⟩, h10⟩ := h
    obtain ⟨v1, v2, v3⟩ := X0.vis h2
    have hv := toSh h6 (ov.pe h9 X0)
    have hkk := ok.sh h10 h7 h8 X0
    have hsw : ∀ t : Expr, swapsWithSole [t] y pos.line X.env = pure false := fun t => sw_no h5
    exact PS.weak (ps_asg hv (pg_sub (pe_var (X0.nm h1) v1 v2 v3) hkk set_list (by intro v; cases z <;> first | rfl | cases h4)) (hsw _) sw_sub rfl) (w_set (X0.k1 h3))
  · cases h
theorem ok_parO (i j : Nat) {a b : C} (oa : Ok Γ φ κ a) (ob : Ok Γ φ κ b) : Ok Γ φ κ (.parO i j a b) := by
  intro lvl G sc fn X tg h X0
  obtain ⟨ro, x, rfl, hq⟩ := onS_of h
  replace h := hq
  split at h
  · rename_i n p m q _ _ y z _ _ pos
    simp only [Bool.and_eq_true, Bool.not_eq_true'] at h
    obtain ⟨⟨⟨⟨⟨⟨⟨⟨⟨⟨⟨⟨⟨⟨⟨⟨⟨⟨a1, a2⟩, a3⟩, a4⟩, a5⟩, a6⟩, a7⟩, a8⟩, a9⟩, b1⟩, b2⟩, b3⟩, b4⟩, b5⟩, b6⟩, b7⟩, b8⟩, b9⟩, c1⟩ := h
    have hk : X.env.scope.kind = .function := by rw [X0.sc]; exact kind_eq b2
    have ha := toOw b6 (oa.pe b9 X0)
    have hb : ∀ B, PE X z (T (G.at B) .ow true (den φ κ b).E) := fun B => by
      have := toOw b7 (ob.pe c1 (X0.at B))
      rw [b8] at this
      exact this
    have b3' := b3
    rw [List.all_cons, Bool.and_eq_true] at b3'
    have b3'' := b3'.2
    rw [List.all_cons, Bool.and_eq_true] at b3''
    have hp := pa_cons ha (pa_cons (ex_pe hb) pa_nil (star_of b3''.1)) (star_of b3'.1)
    exact PS.weak (ps_par X0.calm X0.nd' (X0.nm a1) (X0.nm a2) (by simpa using a7) (X0.lcl a3) (X0.lcl a4) hp (sw2 hk (X0.lcl a3) (X0.lcl a4) b1 a8 a9 b3 b4 b5) rfl) (w_parO (X0.k1 a5) (X0.k1 a6) (by simpa using a7))
  · cases h
theorem ok_augS (f : Bool) (i : Nat) {k v : C} (ok : Ok Γ φ κ k) (ov : Ok Γ φ κ v) : Ok Γ φ κ (.augS f i k v) := by
  intro lvl G sc fn X tg h X0
  obtain ⟨ro, x, rfl, hq⟩ := onS_of h
  replace h := hq
  split at h
  · simp only [Bool.and_eq_true] at h
    obtain ⟨⟨⟨⟨⟨⟨⟨⟨⟨⟨h1, h2⟩, h3⟩, h4⟩, h5⟩, h6⟩, h7⟩, h8⟩, h9⟩, h10⟩, h11⟩ := h
    rename_i n p1 z p2 op y pos
    have hz : ∀ ov iv new, augStore z ov iv new = (do holding [new, ov, iv] (setItem ov iv new); release [new, ov, iv] []; pure .next) := by
      intro ov iv new
      cases z <;> first | rfl | cases h11
    obtain ⟨v1, v2, v3⟩ := X0.vis h3
    have hkk := ok.sh h9 h5 h6 X0
    have hvv := ov.sh h10 h7 h8 X0
    have hK := X0.K
    split at h1
    · exact PS.weak (ps_augS (pe_var (X0.nm h2) v1 v2 v3) hkk L2.get_list hvv ip_add set_list hz) (by rw [hK]; exact w_augS (X0.k1 h4))
    · exact PS.weak (ps_augS (pe_var (X0.nm h2) v1 v2 v3) hkk L2.get_list hvv ip_sub set_list hz) (by rw [hK]; exact w_augS (X0.k1 h4))
    · cases h1
  · cases h
theorem ok_parSO (i j : Nat) {a b : C} (oa : Ok Γ φ κ a) (ob : Ok Γ φ κ b) : Ok Γ φ κ (.parSO i j a b) := by
  intro lvl G sc fn X tg h X0
  obtain ⟨ro, x, rfl, hq⟩ := onS_of h
  replace h := hq
  split at h
  · rename_i n p m q _ _ y z _ _ pos
    simp only [Bool.and_eq_true, Bool.not_eq_true'] at h
    obtain ⟨⟨⟨⟨⟨⟨⟨⟨⟨⟨⟨⟨⟨⟨⟨⟨⟨⟨a1, a2⟩, a3⟩, a4⟩, a5⟩, a6⟩, a7⟩, a8⟩, a9⟩, b1⟩, b2⟩, b3⟩, b4⟩, b5⟩, b6⟩, b7⟩, b8⟩, b9⟩, c1⟩ := h
    have hk : X.env.scope.kind = .function := by rw [X0.sc]; exact kind_eq b2
    have ha := toSh b6 (oa.pe b9 X0)
    have hb := toOw b7 (ob.pe c1 X0)
    rw [b8] at hb
    have b3' := b3
    rw [List.all_cons, Bool.and_eq_true] at b3'
    have b3'' := b3'.2
    rw [List.all_cons, Bool.and_eq_true] at b3''
    have hp := pa_cons ha (pa_cons hb pa_nil (star_of b3''.1)) (star_of b3'.1)
    exact PS.weak (ps_par X0.calm X0.nd' (X0.nm a1) (X0.nm a2) (by simpa using a7) (X0.lcl a3) (X0.lcl a4) hp (sw2 hk (X0.lcl a3) (X0.lcl a4) b1 a8 a9 b3 b4 b5) rfl) (w_parSO (X0.k0 (by rw [a5]; rfl)) (X0.k1 a6) (by simpa using a7))
  · cases h
theorem ok_parOOS (i j k : Nat) {a b c : C} (oa : Ok Γ φ κ a) (ob : Ok Γ φ κ b) (oc : Ok Γ φ κ c) : Ok Γ φ κ (.parOOS i j k a b c) := by
  intro lvl G sc fn X tg h X0
  obtain ⟨ro, x, rfl, hq⟩ := onS_of h
  replace h := hq
  split at h
  · rename_i n p m q o r _ _ y z w _ _ pos
    simp only [Bool.and_eq_true, Bool.not_eq_true', decide_eq_true_eq] at h
    obtain ⟨⟨⟨⟨⟨⟨⟨⟨⟨⟨⟨⟨⟨⟨⟨⟨⟨⟨⟨⟨⟨⟨⟨⟨⟨⟨a1, a2⟩, a3⟩, a4⟩, a5⟩, a6⟩, a7⟩, a8⟩, a9⟩, b1⟩, b2⟩, b3⟩, b4⟩, b5⟩, b6⟩, b7⟩, b8⟩, b9⟩, c1⟩, c2⟩, c3⟩, c4⟩, c5⟩, c6⟩, c7⟩, c8⟩, c9⟩ := h
    have hk : X.env.scope.kind = .function := by rw [X0.sc]; exact kind_eq b7
    have ha := toOw c2 (oa.pe c7 X0)
    have hb : ∀ B, PE X z (T (G.at B) .ow true (den φ κ b).E) := fun B => by
      have := toOw c3 (ob.pe c8 (X0.at B))
      rw [c4] at this
      exact this
    have hc : ∀ B, PE X w (T (G.at B) .sh true (den φ κ c).E) := fun B => oc.sh c9 c6 c5 (X0.at B)
    have s1 := b8
    rw [List.all_cons, Bool.and_eq_true] at s1
    have s2 := s1.2
    rw [List.all_cons, Bool.and_eq_true] at s2
    have s3 := s2.2
    rw [List.all_cons, Bool.and_eq_true] at s3
    have hp := pa_cons ha (pa_cons (ex_pe hb) (pa_cons (ex_pe hc) pa_nil (star_of s3.1)) (star_of s2.1)) (star_of s1.1)
    exact PS.weak (ps_par3 X0.calm X0.nd' (X0.nm a1) (X0.nm a2) (X0.nm a3) (by simpa using b1) (by simpa using b2) (by simpa using b3) (X0.lcl a4) (X0.lcl a5) (X0.lcl a6) hp (sw3 hk (X0.lcl a4) (X0.lcl a5) (X0.lcl a6) b5 b6 b4 b8 b9 c1) rfl) (w_parOOS (X0.k1 a7) (X0.k1 a8) (X0.k0 (by rw [a9]; rfl)) (by simpa using b1))
  · cases h
theorem ok_no {c : C} (h : ∀ sc fn tg, chk Γ c sc fn tg = false) : Ok Γ φ κ c := fun {_ _ sc fn _ tg} hh _ => by rw [h sc fn tg] at hh; cases hh
/-- every tree that is checked -/
theorem chk_ok : ∀ c : C, Ok Γ φ κ c := by
  intro c
  induction c with
  | k d => exact ok_k d
  | g j => exact ok_g j
  | v i => exact ok_v i
  | b i => exact ok_b i
  | m i => exact ok_m i
  | bin o a b iha ihb => exact ok_bin o iha ihb
  | cmp o a b iha ihb => exact ok_cmp o iha ihb
  | isN f a ih => exact ok_isN f ih
  | isB f a b iha ihb => exact ok_isB f iha ihb
  | chain o p a b c iha ihb ihc => exact ok_chain o p iha ihb ihc
  | neg a ih => exact ok_neg ih
  | not a ih => exact ok_not ih
  | and a b iha ihb => exact ok_and iha ihb
  | or a b iha ihb => exact ok_or iha ihb
  | one a ih => exact ok_one ih
  | ifx t a b iht iha ihb => exact ok_ifx iht iha ihb
  | nil => exact ok_nil
  | cons a b iha ihb => exact ok_cons iha ihb
  | tup l ih => exact ok_tup ih
  | lst l ih => exact ok_lst ih
  | ix a i iha ihi => exact ok_ix iha ihi
  | sl own a lo hi iha ihl ihh => exact ok_sl own iha ihl ihh
  | rev own a ih => exact ok_rev own ih
  | np => exact ok_np
  | pt a ih => exact ok_pt ih
  | c1 f a ih => exact ok_c1 f ih
  | list a ih => exact ok_list ih
  | sorted a ih => exact ok_sorted ih
  | isi ts a ih => exact ok_isi ts ih
  | fn j l ih => exact ok_fn j ih
  | lc own p s c e ihs ihc ihe => exact ok_lc own p ihs ihc ihe
  | yes => exact ok_no fun _ _ _ => rfl
  | seq a ih => exact ok_seq ih
  | seqB a ih => exact ok_seqB ih
  | r1 a ih => exact ok_r1 ih
  | r2 a b iha ihb => exact ok_r2 iha ihb
  | zip a b iha ihb => exact ok_zip iha ihb
  | pop i => exact ok_pop i
  | mm f a b iha ihb => exact ok_mm f iha ihb
  | aug f i a ih => exact ok_aug f i ih
  | set i k v ihk ihv => exact ok_set i ihk ihv
  | enum a ih => exact ok_enum ih
  | parO i j a b iha ihb => exact ok_parO i j iha ihb
  | rep a b iha ihb => exact ok_rep iha ihb
  | sset a ih => exact ok_sset ih
  | lset a ih => exact ok_lset ih
  | dic1 k v ihk ihv => exact ok_dic1 ihk ihv
  | cat a b iha ihb => exact ok_cat iha ihb
  | augS f i k v ihk ihv => exact ok_augS f i ihk ihv
  | parSO i j a b iha ihb => exact ok_parSO i j iha ihb
  | parOOS i j k a b c iha ihb ihc => exact ok_parOOS i j k iha ihb ihc
  | popAt i a ih => exact ok_popAt i ih
  | skip => exact ok_skip
  | sq a b iha ihb => exact ok_sq iha ihb
  | pass => exact ok_pass
  | brk => exact ok_brk
  | cnt => exact ok_cnt
  | ret a ih => exact ok_ret ih
  | retN => exact ok_retN
  | ifs t a b iht iha ihb => exact ok_ifs iht iha ihb
  | asg p a ih => exact ok_asg p ih
  | aso i a ih => exact ok_aso i ih
  | for_ s p b ihs ihb => exact ok_for p ihs ihb
  | wh n t b iht ihb => exact ok_wh n iht ihb
  | app i a ih => exact ok_app i ih
  | ext i a ih => exact ok_ext i ih
  | nev => exact ok_nev
  | doc => exact ok_doc
  | par is l ih => exact ok_par is ih
  | drp a ih => exact ok_drp ih
  | fgt ks a ih => exact ok_fgt ks ih
end
end EV
/-! a def by its tree -/
namespace EV
open PySem PySem.Spec PyProof.Rows L2 RZ
def retOf (ro : Bool) : Fl → R D
  | .rt d => .ok d
  | .nx _ => (match ro with | true => .bad | false => .ok .non)
  | _ => .bad
structure Fd where
  nm : Str
  ar : Nat
  ro : Bool
  N : List Str
  mu : List Nat
  body : C
def Fd.kd (f : Fd) (i : Nat) : Bool := f.mu.contains i
def init (n : Nat) (ds : List D) : AS := ds.map some ++ List.replicate (n - ds.length) none
def runB (φ : Nat → List D → R D) (κ : Nat → D) (f : Fd) (ds : List D) : R D := ((den φ κ f.body).M (init f.N.length ds)).bind (retOf f.ro)
def gmOf (F : List Fd) (cons : List Str) (f : Fd) : Gm := ⟨f.N, f.kd, cons, F.map fun g => (g.nm, g.ar, g.ro)⟩
theorem ShRs.get {K : PySem.W.Frag} {hd : Option Addr} {H : Hp} {F : Addr → Prop} : ∀ {vs : List V} {ds : List D} {i : Nat} {d : D}, ShRs K hd H F vs ds → ds[i]? = some d → ∃ v, vs[i]? = some v ∧ ShR K hd H F v d
  | _, _, _, _, .nil, e => by simp at e
  | _, _, 0, _, .cons h _, e => by simp at e; subst e; exact ⟨_, rfl, h⟩
  | _, _, i + 1, d, .cons _ hs, e => by
    obtain ⟨v, h1, h2⟩ := ShRs.get (i := i) (d := d) hs (by simpa using e)
    exact ⟨v, by simpa using h1, h2⟩
theorem init_some {n : Nat} {ds : List D} {i : Nat} {d : D} (h : (init n ds)[i]? = some (some d)) : ds[i]? = some d ∧ i < ds.length := by
  unfold init at h
  by_cases hi : i < ds.length
  · rw [List.getElem?_append_left (by simpa using hi), List.getElem?_map] at h
    cases e : ds[i]? with
    | none => rw [e] at h; cases h
    | some a => rw [e] at h; cases h; exact ⟨rfl, hi⟩
  · rw [List.getElem?_append_right (by simpa using hi), List.getElem?_replicate] at h
    split at h <;> cases h
/-- the state at a def's entry -/
theorem SR.entry {K : PySem.W.Frag} {kd : Nat → Bool} {hd : Option Addr} {hc : Addr} {B : Addr → Prop} {H : Hp} {vs : List V} {ds : List D} {N : List Str} (tr : ∀ a, B a → ∃ xs, H a = some (.lst xs)) (hi : HandI hd hc B H) (h : ShRs K hd H B vs ds)
    (hk : ∀ i, i < vs.length → kd i = false) : SR ⟨K, hd, hc, B, kd⟩ (init N.length ds) (L2.start N vs) H (fun _ => False) where
  len := by
    unfold init L2.start
    rw [List.length_append, List.length_append, List.length_map, List.length_map, List.length_replicate, List.length_replicate, h.length]
  val := fun i d e => by
    obtain ⟨e1, e2⟩ := init_some e
    obtain ⟨v, e3, r⟩ := h.get e1
    rw [← h.length] at e2
    refine ⟨v, ?_, ?_⟩
    · unfold L2.start
      rw [List.getElem?_append_left (by simpa using e2), List.getElem?_map, e3]
      rfl
    · show SlotR _ (kd i) _ _ _ _
      rw [hk i e2]
      exact r.mono fun a z => z.elim id False.elim
  ap := fun i j d d' a _ k1 _ e _ _ _ => by
    obtain ⟨_, e2⟩ := init_some e
    rw [← h.length] at e2
    exact Bool.false_ne_true ((hk i e2).symm.trans k1)
  tr := fun a z => z.elim (tr a) False.elim
  bo := fun _ _ z => z
  hn := hi
section
variable {P : Program} {w : World} {K : PySem.W.Frag} {mg : Str → Option Value} {base : Heap}
theorem cal_fn {st : Stmt} {f : Addr} {fd : FuncData} {ps : List Str} {Γ : Gm} {φ : Nat → List D → R D} {κ : Nat → D} {k n : Nat} {ro : Bool} {x : Str} {body : C} (F : L2.Fun K x x st f fd) (b : Binds K fd ps []) (hmx : mg x = some (.ref f)) (S : FnScope Γ.N ps (defScope st)) (hl : ps.length = n)
    (hm : ∀ i, i < n → Γ.kd i = false) (hc : chk Γ body (defScope st) (fun _ => true) (.b ro (defBody st)) = true) (mg0 : ∀ x, bltB x = true → mg x = none)
    (cal : ∀ j x n ro, Γ.funs[j]? = some (x, n, ro) → C8.Cal P w K mg base k x (SpE K n ro (φ j)) []) (con : ∀ j x, Γ.cons[j]? = some x → ∃ u v, mg x = some u ∧ RelV v u ∧ ∀ H F, Sh K H F v (κ j)) :
    C8.Cal P w K mg base (k + 1) x (SpE K n ro (fun ds => ((den φ κ body).M (init Γ.N.length ds)).bind (retOf ro))) [] := by
  refine ⟨f, fd, ps, [], ?_, hmx, F.kp, b, .nil⟩
  refine F.ok S (fun vs H Q E h => h.1.trans hl.symm) fun cdv A outer s H vs Q E hr h => ?_
  obtain ⟨hv, hd, hc', B, ds, tr, hi, sh, q⟩ := h
  have S0 : SR ⟨K, hd, hc', B, Γ.kd⟩ (init Γ.N.length ds) (L2.start Γ.N vs) H (fun _ => False) := SR.entry tr hi sh fun i h => hm i (by rwa [hv] at h)
  refine ⟨TSm ⟨K, hd, hc', B, Γ.kd⟩ ro (den φ κ body).M, ?_, ?_⟩
  · exact chk_ok (κ := κ) (φ := φ) body (lvl := k) (G := ⟨K, hd, hc', B, Γ.kd⟩) (tg := .b ro (defBody st)) hc ⟨rfl, rfl, rfl, rfl, rfl, rfl, S.nd, hr, mg0, cal, con, rfl⟩
  · refine ⟨init Γ.N.length ds, fun _ => False, S0, R.all_mono (fun fl q => ?_) (R.all_bind q)⟩
    cases fl with
    | bk _ => exact q.elim
    | ct _ => exact q.elim
    | nx st' =>
      intro σ' H' O' sp S'
      cases ro with
      | true => exact q.elim
      | false => exact q .non H' (fun a o e n => sp.pr a o e (.inr id) n) S'.hn (.inl .non)
    | rt d =>
      intro v H' O' st' σ' sp S' r
      refine q v H' (fun a o e n => sp.pr a o e (.inr id) n) S'.hn ?_
      cases ro with
      | false => exact ShR.mono (fun a z => .inl z) r
      | true =>
        obtain ⟨a, rfl, ⟨ho, ds', vs', rfl, e2, e3⟩, _⟩ := r
        refine ⟨a, rfl, (sp.nw a ho).resolve_left id, ds', vs', rfl, e2, e3.mono fun b z => z.elim .inl fun e => .inr (e ▸ ho)⟩
end
end EV
/-! the law's own hand -/
namespace EV
open PySem PySem.Spec PyProof.Rows L2 RZ
def topS (i : Nat) : Stmt := PySem.Challenge.pw_tiledwhole_k49_whole_cuts_turned_and_gro.main.body.getD i (.Pass ⟨0, 0, 0, 0⟩)
abbrev sHand : Stmt := topS 34
abbrev sDraw : Stmt := topS 35
--MARK
theorem scH : FnScope ["script", "cells", "cell"] ["script"] (defScope sHand) := ⟨rfl, rfl, rfl, by decide +kernel, rfl, by decide +kernel, by decide +kernel⟩
theorem scD : FnScope ["hand", "many", "cell", "digit", "number"] ["hand", "many"] (defScope sDraw) := ⟨rfl, rfl, rfl, by decide +kernel, rfl, by decide +kernel, by decide +kernel⟩
def hnd5 (hc : Addr) (i l m n : Int) : List V := [.ref hc, .int i, .int l, .int m, .int n]
def spHand (K : PySem.W.Frag) : Sp := fun vs H Q _ => ∃ (a : Addr) (ns : List Int), vs = [V.ref a] ∧ SqL K H a (ns.map V.int) ∧ ns.length ≤ 63 ∧ ∀ (H' : Hp) (h hc : Addr) (cs : List Int) (m : Int), (∀ b o, H b = some o → H' b = some o) → H h = none → H hc = none → hc ≠ h → H' hc = some (.lst (cs.map V.int)) → (∀ x ∈ cs, 0 ≤ x) → 0 ≤ m →
  H' h = some (.lst (hnd5 hc 0 0 m 0)) → Q (.ref h) H'
section
variable {P : Program} {w : World} {K : PySem.W.Frag} {mg : Str → Option Value} {base : Heap}
def absI (z : Int) : Int := if z < 0 then -z else z
theorem absI_nn (z : Int) : 0 ≤ absI z := by unfold absI; split <;> omega
theorem cut_map (ns : List Int) (lo hi : Option Int) : ∃ ms : List Int, cutV (ns.map V.int) lo hi = ms.map V.int ∧ ms.length ≤ ns.length := by
  unfold cutV
  exact ⟨_, by rw [← List.map_drop, ← List.map_take], by rw [List.length_take, List.length_drop]; omega⟩
theorem ok_hand {f : Addr} {fd : FuncData} (F : L2.Fun K "_law_hand" "_law_hand" sHand f fd) (mg0 : ∀ x, bltB x = true → mg x = none) : FnOk P w K mg base L2.CX0 1 f fd ["script"] (spHand K) := by
  have m1 := mg0 "abs" (by decide +kernel)
  have m2 := mg0 "int" (by decide +kernel)
  have m3 := mg0 "len" (by decide +kernel)
  refine F.ok scH (fun vs H Q E h => ?_) (fun cdv A outer s H vs Q E hr h => ?_)
  · obtain ⟨a, ns, rfl, _⟩ := h
    rfl
  · obtain ⟨a, ns, rfl, hS, hlen, k⟩ := h
    refine ⟨_, pss_cons (ps_setLc (i := 1) (own := [("cell", 2)]) rfl scH.nd rfl rfl rfl (pi_list (pe_slice sl_list (pv 0) po_none (po_some pe_int))) (blkOk_by (show blkC ["script", "cells", "cell"] (defScope sHand) _ [("cell", 2)] = true by decide +kernel))
        (fun _ _ _ _ _ => pg_name (i := 2) scH.nd rfl (Or.inl rfl)) (fun _ _ _ _ _ => pts_nil) (fun _ _ _ _ _ => pe_callB call_abs (by rfl) m1 rfl (pa_cons (pe_callTy call_int1 (by rfl) m2 rfl (pa_cons (pv 2) pa_nil)) pa_nil)))
      (pss_one (ps_ret (pe_lst (pa_cons (pv 1) (pa_cons pe_int (pa_cons pe_int (pa_cons (pe_op op_add pe_int (pe_op op_mul pe_int (pe_callB call_len_seq (by rfl) m3 rfl (pa_cons (pv 1) pa_nil)))) (pa_cons pe_int pa_nil)))))))), ?_⟩
    obtain ⟨ms, em, lm⟩ := cut_map ns none (some 63)
    refine ⟨.ref a, rfl, 63, rfl, a, _, rfl, hS, fun p hp => ?_⟩
    rw [em]
    refine ⟨p, rfl, ⟨_, .inl (.inl upd_same)⟩, fun D hD => ?_⟩
    have npD : p ≠ D := fun z => by rw [← z, upd_same] at hD; cases hD
    refine lc_list (K := K) (a := p) (xs := ms.map V.int) (fun i H' => (∀ b o, H b = some o → H' b = some o) ∧ H' p = some (.lst (ms.map V.int)) ∧ H' D = some (.lst (((ms.take i).map absI).map V.int))) ?_ (fun i H' _ q => .inl (.inl q.2.1)) ?_ ?_
    · refine ⟨fun b o e => ?_, ?_, upd_same⟩
      · rw [upd_ne (fun z => by rw [z] at e; rw [upd_ne (fun y => npD y.symm), e] at hD; cases hD), upd_ne (ne_of_none e hp)]
        exact e
      · rw [upd_ne npD, upd_same]
    · intro i x H' hi q
      obtain ⟨z, hz, rfl⟩ : ∃ z, ms[i]? = some z ∧ x = V.int z := by
        rw [List.getElem?_map] at hi
        cases e : ms[i]? with
        | none => rw [e] at hi; cases hi
        | some z => rw [e] at hi; exact ⟨z, rfl, (Option.some.inj hi).symm⟩
      refine ⟨rfl, ?_⟩
      unfold tYes
      dsimp only
      rw [if_pos rfl]
      refine ⟨.int z, rfl, .inl ⟨z, rfl, z, rfl, _, q.2.2, ?_, ?_⟩⟩
      · have := (List.getElem?_eq_some_iff.mp hz).1
        rw [List.length_map, List.length_map, List.length_take]
        exact Nat.lt_of_le_of_lt (Nat.le_trans (Nat.min_le_right _ _) lm) (Nat.lt_of_le_of_lt hlen (by decide))
      · refine ⟨fun b o e => ?_, ?_, ?_⟩
        · rw [upd_ne (fun z => by rw [z] at e; rw [upd_ne (fun y => npD y.symm), e] at hD; cases hD)]
          exact q.1 b o e
        · rw [upd_ne npD]
          exact q.2.1
        · rw [upd_same, List.take_add_one, hz, List.map_append, List.map_append]
          rfl
    · intro H' q
      obtain ⟨q1, q2, q3⟩ := q
      rw [List.take_of_length_le (by rw [List.length_map]; exact Nat.le_refl _)] at q3
      have hDn : H D = none := by
        rw [upd_ne (fun y => npD y.symm)] at hD
        exact hD
      refine ⟨.ref D, rfl, .ref D, rfl, D, _, rfl, .inl (.inl (.inl q3)), 5, _, rfl, rfl, .inl ⟨by decide, by decide⟩, 83, _, rfl, rfl, (by show 5 ≤ sizeLine; decide), fun h hh => ?_⟩
      have nDh : D ≠ h := ne_of_none q3 hh
      have hHn : H h = none := by
        cases e : H h with
        | none => rfl
        | some o => rw [q1 h o e] at hh; cases hh
      refine k _ h D (ms.map absI) _ (fun b o e => ?_) hHn hDn nDh (by rw [upd_ne nDh]; exact q3) (fun x hx => ?_) ?_ upd_same
      · rw [upd_ne (fun z => by rw [z, hHn] at e; cases e)]
        exact q1 b o e
      · obtain ⟨y, _, rfl⟩ := List.mem_map.mp hx
        exact absI_nn y
      · omega
/-! a draw -/
def phiDraw : List D → R D
  | [.hnd, .int n] => (match decide (0 < n) && decide (n < 1073741824) with | true => .dr n.toNat (fun d => .ok (.int (d : Nat))) | false => .bad)
  | _ => .bad
theorem rdk {σ : L2.St} {H : Hp} {Q : VK} {a : Addr} {xs : List V} {k : Int} {v : V} (hs : σ[0]? = some (some (.ref a))) (hH : H a = some (.lst xs)) (hx : atI xs k = some v) (q : Q v H) : tOp (rIxL K) (tVar 0) (tC (.int k)) σ H Q := ⟨_, hs, a, xs, k, v, rfl, rfl, .inl (.inl hH), hx, q⟩
theorem wrk {σ : L2.St} {H : Hp} {Q : L2.St → Hp → Prop} {a : Addr} {xs : List V} {k : Int} {j : Nat} {v : V} (hs : σ[0]? = some (some (.ref a))) (hH : H a = some (.lst xs)) (hx : ixN xs.length k = some j) (q : Q σ (upd H a (.lst (xs.set j v)))) : gSub (tVar 0) (tC (.int k)) rSetL v σ H Q := ⟨_, hs, a, xs, k, j, rfl, rfl, hH, hx, q⟩
theorem ok_draw {f : Addr} {fd : FuncData} (F : L2.Fun K "_law_draw" "_law_draw" sDraw f fd) (mg0 : ∀ x, bltB x = true → mg x = none) : FnOk P w K mg base L2.CX0 1 f fd ["hand", "many"] (SpE K 2 false phiDraw) := by
  have m2 := mg0 "int" (by decide +kernel)
  have m3 := mg0 "len" (by decide +kernel)
  refine F.ok scD (fun vs H Q E h => h.1) (fun cdv A outer s H vs Q E hr h => ?_)
  obtain ⟨hl, hd, hc, B, ds, tr, hI, sh, q⟩ := h
  obtain ⟨n, rfl⟩ : ∃ n, ds = [.hnd, .int n] := by
    unfold phiDraw at q
    split at q
    · exact ⟨_, rfl⟩
    · exact q.elim
  obtain ⟨a, rfl, rfl⟩ : ∃ a, vs = [.ref a, .int n] ∧ hd = some a := by
    cases sh with
    | cons h1 h2 =>
      cases h2 with
      | cons h3 h4 =>
        cases h4
        rcases h1 with h1 | ⟨_, a, rfl, ea⟩
        · cases h1
        · rcases h3 with h3 | ⟨h3, _⟩
          · cases h3
            exact ⟨a, rfl, ea⟩
          · cases h3
  have q' : (0 < n ∧ n < 1073741824) ∧ ∀ d, d < n.toNat → ∀ v H', (∀ b o, H b = some o → some a ≠ some b → H' b = some o) → HandI (some a) hc B H' → RetR K (some a) B H H' false v (.int (d : Nat)) → Q v H' := by
    unfold phiDraw at q
    dsimp only at q
    cases e : (decide (0 < n) && decide (n < 1073741824)) with
    | false => rw [e] at q; exact q.elim
    | true =>
      rw [e] at q
      rw [Bool.and_eq_true, decide_eq_true_eq, decide_eq_true_eq] at e
      exact ⟨e, q⟩
  obtain ⟨⟨n0, n1⟩, k⟩ := q'
  obtain ⟨⟨hBa, hBc, hca⟩, i0, l0, m0, c0, cs, hHa, hHc, hi0, hl0, hm0, hc0, hcs⟩ := hI a rfl
  have fin : ∀ (d i l m c : Int) (H' : Hp), 0 ≤ d → d < n → 0 ≤ i → 0 ≤ l → 0 ≤ m → 0 ≤ c → H' a = some (.lst (hnd5 hc i l m c)) → (∀ b, b ≠ a → H' b = H b) → Q (.int d) H' := by
    intro d i l m c H' d0 d1 hi hl hm hcc e1 e2
    have := k d.toNat (by omega) (.int d) H' (fun b o e ne => by rw [e2 b (fun z => ne (by rw [z]))]; exact e) (fun b eb => by
      cases eb
      exact ⟨⟨hBa, hBc, hca⟩, i, l, m, c, cs, e1, by rw [e2 hc hca]; exact hHc, hi, hl, hm, hcc, hcs⟩) (.inl (by rw [Int.toNat_of_nonneg d0]; exact .int d))
    exact this
  have fm : ∀ x y : Int, 0 < y → 0 ≤ x.fmod y ∧ x.fmod y < y := fun x y h => ⟨Int.fmod_nonneg_of_pos x h, Int.fmod_lt_of_pos x h⟩
  have hT : PSs (cxOf CX0 P w K mg base ["hand", "many", "cell", "digit", "number"] "_law_draw" (defScope sDraw) f cdv A outer s H E).nox (defBody sDraw).tail (fun Dn σ H1 => ∃ x2 i l m c, σ = [some (.ref a), some (.int n), x2, none, none] ∧ 0 ≤ i ∧ 0 ≤ l ∧ 0 ≤ m ∧ 0 ≤ c ∧ H1 a = some (.lst (hnd5 hc i l m c)) ∧
      ∀ (d i l m c : Int) (H' : Hp), 0 ≤ d → d < n → 0 ≤ i → 0 ≤ l → 0 ≤ m → 0 ≤ c → H' a = some (.lst (hnd5 hc i l m c)) → (∀ b, b ≠ a → H' b = H1 b) → Dn.rt (.int d) H') := by
    refine PSs.weak (pss_cons (ps_if (pt_cmpR op_gt (pe_ix ix_list (pv 0) pe_int (fun _ _ => rfl)) pe_int (nomark _))
        (pss_cons (ps_set (i := 3) scD.nd rfl (.inl rfl) (pe_op op_modN (pe_callTy call_int1 (by rfl) m2 rfl (pa_cons (pe_ix ix_list (pv 0) pe_int (fun _ _ => rfl)) pa_nil)) (pv 1)))
        (pss_cons (ps_asg (pe_op op_fdivN (pe_ix ix_list (pv 0) pe_int (fun _ _ => rfl)) (pv 1)) (pg_sub (pv 0) pe_int set_list))
        (pss_one (ps_ret (pv 3))))) pss_nil)
      (pss_cons (ps_asg (pe_op op_add (pe_ix ix_list (pv 0) pe_int (fun _ _ => rfl)) pe_int) (pg_sub (pv 0) pe_int set_list))
      (pss_cons (ps_set (i := 4) scD.nd rfl (.inl rfl) (pe_op op_modN (pe_callTy call_int1 (by rfl) m2 rfl (pa_cons (pe_op op_mul (pe_callTy call_int1 (by rfl) m2 rfl (pa_cons (pe_op op_add (pe_ix ix_list (pv 0) pe_int (fun _ _ => rfl)) (pe_op op_mul pe_int (pe_ix ix_list (pv 0) pe_int (fun _ _ => rfl)))) pa_nil)) pe_int) pa_nil)) pe_int))
      (pss_cons (ps_set (i := 4) scD.nd rfl (.inl rfl) (pe_op op_modN (pe_callTy call_int1 (by rfl) m2 rfl (pa_cons (pe_op op_mul (pv 4) (pe_op op_add (pe_op op_fdivN (pv 4) pe_int) pe_int)) pa_nil)) pe_int))
      (pss_cons (ps_set (i := 4) scD.nd rfl (.inl rfl) (pe_op op_modN (pe_callTy call_int1 (by rfl) m2 rfl (pa_cons (pe_op op_mul (pv 4) (pe_op op_add (pe_op op_fdivN (pv 4) pe_int) pe_int)) pa_nil)) pe_int))
      (pss_one (ps_ret (pe_op op_modN (pe_callTy call_int1 (by rfl) m2 rfl (pa_cons (pe_op op_fdivN (pv 4) pe_int) pa_nil)) (pv 1))))))))) ?_
    rintro Dn σ H1 ⟨x2, i, l, m, c, rfl, hi, hl, hm, hcc, e1, fin⟩
    refine rdk rfl e1 (v := .int l) rfl ⟨l, 0, rfl, rfl, _, rfl, ite2 (fun hg => ?_) (fun hg => ?_)⟩
    · refine rdk rfl e1 (v := .int l) rfl (.inl ⟨l, rfl, .int n, rfl, l, n, rfl, rfl, (by omega : n ≠ 0), ?_⟩)
      refine rdk rfl e1 (v := .int l) rfl ⟨.int n, rfl, l, n, rfl, rfl, ⟨by omega, by omega⟩, ?_⟩
      refine wrk rfl e1 (j := 2) rfl ⟨_, rfl, ?_⟩
      exact fin _ i _ m c _ (fm l n n0).1 (fm l n n0).2 hi (Int.fdiv_nonneg hl (by omega)) hm hcc upd_same fun b hb => upd_ne hb
    · refine rdk rfl e1 (v := .int c) rfl ⟨c, 1, rfl, rfl, ?_⟩
      refine wrk rfl e1 (j := 4) rfl ?_
      refine rdk rfl upd_same (v := .int m) rfl ?_
      refine rdk rfl upd_same (v := .int (c + 1)) rfl ?_
      refine ⟨7877, c + 1, rfl, rfl, .inl ⟨by decide, by decide⟩, m, _, rfl, rfl, .inl ⟨_, rfl, _, 69621, rfl, rfl, .inr ⟨by decide, by decide⟩, .inl ⟨_, rfl, _, 2147483647, rfl, rfl, (by decide : (2147483647 : Int) ≠ 0), ?_⟩⟩⟩
      refine ⟨_, rfl, _, rfl, _, 1103, rfl, rfl, ⟨by decide, by decide⟩, _, 40692, rfl, rfl, _, _, rfl, rfl, .inl ⟨Int.lt_of_lt_of_le (by decide) (fm _ 2147483647 (by decide)).1, Int.lt_trans (fm _ 2147483647 (by decide)).2 (by decide)⟩, .inl ⟨_, rfl, _, 2147483399, rfl, rfl, (by decide : (2147483399 : Int) ≠ 0), ?_⟩⟩
      refine ⟨_, rfl, _, rfl, _, 2311, rfl, rfl, ⟨by decide, by decide⟩, _, 48271, rfl, rfl, _, _, rfl, rfl, .inl ⟨Int.lt_of_lt_of_le (by decide) (fm _ 2147483399 (by decide)).1, Int.lt_trans (fm _ 2147483399 (by decide)).2 (by decide)⟩, .inl ⟨_, rfl, _, 2147483629, rfl, rfl, (by decide : (2147483629 : Int) ≠ 0), ?_⟩⟩
      refine ⟨_, rfl, _, 16, rfl, rfl, ⟨by decide, by decide⟩, .inl ⟨_, rfl, _, rfl, _, n, rfl, rfl, (by omega : n ≠ 0), ?_⟩⟩
      exact fin _ i l m (c + 1) _ (fm _ n n0).1 (fm _ n n0).2 hi hl hm (by omega) upd_same fun b hb => upd_ne hb
  refine ⟨_, pss_cons (ps_if ((pw_and (pt_cmpR op_eq (pe_ix ix_list (pv 0) pe_int (fun _ _ => rfl)) pe_int (nomark _)) (pw_and1 (pt_cmpR op_lt (pe_ix ix_list (pv 0) pe_int (fun _ _ => rfl)) (pe_callB call_len_seq (by rfl) m3 rfl (pa_cons (pe_ix ix_list (pv 0) pe_int (fun _ _ => rfl)) pa_nil)) (nomark _)))).pt)
      (pss_cons (ps_set (i := 2) scD.nd rfl (.inl rfl) (pe_ix ix_list (pe_ix ix_list (pv 0) pe_int (fun _ _ => rfl)) (pe_ix ix_list (pv 0) pe_int (fun _ _ => rfl)) (fun _ _ => rfl)))
      (pss_cons (ps_asg (pe_op op_add (pe_ix ix_list (pv 0) pe_int (fun _ _ => rfl)) pe_int) (pg_sub (pv 0) pe_int set_list))
      (pss_cons (ps_asg (pe_op op_modN (pe_callTy call_int1 (by rfl) m2 rfl (pa_cons (pe_op op_add (pe_op op_add (pe_op op_mul (pe_ix ix_list (pv 0) pe_int (fun _ _ => rfl)) pe_int) (pe_op op_mul (pv 2) pe_int)) pe_int) pa_nil)) pe_int) (pg_sub (pv 0) pe_int set_list))
      (pss_one (ps_asg (pe_ifExp (pt_cmpR op_ge (pv 2) (pe_op op_pow pe_int pe_int) (nomark _)) (pv 2) pe_int) (pg_sub (pv 0) pe_int set_list))))))
      pss_nil) hT, ?_⟩
  refine rdk rfl hHa (v := .int l0) rfl ⟨rfl, _, rfl, ite2 (fun g1 => ?_) (fun g1 => ?_)⟩
  · refine rdk rfl hHa (v := .int i0) rfl (rdk rfl hHa (v := .ref hc) rfl ⟨hc, _, rfl, .inl (.inl (.inl hHc)), i0, _, rfl, rfl, _, rfl, ite2 (fun g2 => ?_) (fun g2 => ?_)⟩)
    · have g2' : i0 < (cs.length : Int) := by
        have := of_decide_eq_true g2
        rwa [List.length_map] at this
      obtain ⟨j, rfl⟩ : ∃ j : Nat, i0 = (j : Int) := ⟨i0.toNat, (Int.toNat_of_nonneg hi0).symm⟩
      have hj : j < cs.length := by omega
      have g3 : (cs.map V.int)[j]? = some (.int cs[j]) := by
        rw [List.getElem?_map, List.getElem?_eq_getElem hj]
        rfl
      have hnn := hcs cs[j] (List.getElem_mem hj)
      refine rdk rfl hHa (v := .ref hc) rfl (rdk rfl hHa (v := .int (j : Int)) rfl ⟨hc, _, (j : Int), _, rfl, rfl, .inl (.inl hHc), atI_nat g3, ?_⟩)
      refine rdk rfl hHa (v := .int (j : Int)) rfl ⟨_, 1, rfl, rfl, wrk rfl hHa (j := 1) rfl ?_⟩
      refine rdk rfl upd_same (v := .int m0) rfl ⟨m0, 48271, rfl, rfl, .inr ⟨by decide, by decide⟩, .int cs[j], rfl, _, 5, rfl, rfl, .inr ⟨by decide, by decide⟩, _, _, rfl, rfl, _, 29, rfl, rfl, .inl ⟨_, rfl, _, 2147483587, rfl, rfl, (by decide : (2147483587 : Int) ≠ 0), wrk rfl upd_same (j := 3) rfl ?_⟩⟩
      refine ⟨.int cs[j], rfl, 10, 18, rfl, rfl, ⟨by decide, by decide, by decide⟩, _, _, rfl, rfl, _, rfl, ite2 (fun g4 => ?_) (fun g4 => ?_)⟩
      · refine ⟨.int cs[j], rfl, wrk rfl upd_same (j := 2) rfl ?_⟩
        exact ⟨_, _, _, _, _, rfl, by omega, hnn, (fm _ 2147483587 (by decide)).1, hc0, upd_same, fun d i l m c H' h1 h2 h3 h4 h5 h6 h7 h8 => fin d i l m c H' h1 h2 h3 h4 h5 h6 h7 fun b hb => by rw [h8 b hb, upd_ne hb, upd_ne hb, upd_ne hb]⟩
      · refine wrk rfl upd_same (j := 2) rfl ?_
        exact ⟨_, _, _, _, _, rfl, by omega, Int.le_refl 0, (fm _ 2147483587 (by decide)).1, hc0, upd_same, fun d i l m c H' h1 h2 h3 h4 h5 h6 h7 h8 => fin d i l m c H' h1 h2 h3 h4 h5 h6 h7 fun b hb => by rw [h8 b hb, upd_ne hb, upd_ne hb, upd_ne hb]⟩
    · exact ⟨none, i0, l0, m0, c0, rfl, hi0, hl0, hm0, hc0, hHa, fin⟩
  · refine iteF ?_
    exact ⟨none, i0, l0, m0, c0, rfl, hi0, hl0, hm0, hc0, hHa, fin⟩
end
end EV
/-! the defs by depth; the law -/
namespace EV
open PySem PySem.Spec PyProof.Rows L2 RZ
def callF (F : List Fd) (κ : Nat → D) (prim : Nat → Option (List D → R D)) : Nat → Nat → List D → R D
  | 0, _, _ => .bad
  | n + 1, j, ds => match prim j with
    | some φ => φ ds
    | none => match F[j]? with
      | some fd => runB (callF F κ prim n) κ fd ds
      | none => .bad
section
variable {P : Program} {w : World} {K : PySem.W.Frag} {mg : Str → Option Value} {base : Heap}
/-- what is known of a def of the table -/
structure FnF (P : Program) (w : World) (K : PySem.W.Frag) (mg : Str → Option Value) (base : Heap) (F : List Fd) (cons : List Str) (pr : Option (List D → R D)) (fd : Fd) : Prop where
  ex : ∃ (st : Stmt) (f : Addr) (fdd : FuncData) (ps : List Str), L2.Fun K fd.nm fd.nm st f fdd ∧ Binds K fdd ps [] ∧ mg fd.nm = some (.ref f) ∧ ps.length = fd.ar ∧
    (match pr with
      | some φ => FnOk P w K mg base L2.CX0 1 f fdd ps (SpE K fd.ar fd.ro φ)
      | none => FnScope fd.N ps (defScope st) ∧ (∀ i, i < fd.ar → fd.kd i = false) ∧ chk (gmOf F cons fd) fd.body (defScope st) (fun _ => true) (.b fd.ro (defBody st)) = true)
theorem cals {F : List Fd} {cons : List Str} {κ : Nat → D} {prim : Nat → Option (List D → R D)} (mg0 : ∀ x, bltB x = true → mg x = none) (con : ∀ j x, cons[j]? = some x → ∃ u v, mg x = some u ∧ RelV v u ∧ ∀ H F, Sh K H F v (κ j))
    (hF : ∀ j fd, F[j]? = some fd → FnF P w K mg base F cons (prim j) fd) : ∀ n j x ar ro, (F.map fun g => (g.nm, g.ar, g.ro))[j]? = some (x, ar, ro) → C8.Cal P w K mg base n x (SpE K ar ro (callF F κ prim n j)) [] := by
  intro n
  induction n with
  | zero =>
    intro j x ar ro e
    rw [List.getElem?_map] at e
    cases ej : F[j]? with
    | none => rw [ej] at e; cases e
    | some fd =>
      rw [ej] at e
      cases e
      obtain ⟨st, f, fdd, ps, Fu, b, hm, hl, _⟩ := (hF j fd ej).ex
      refine ⟨f, fdd, ps, [], ⟨fun vs H Q E h => h.1.trans hl.symm, fun A outer s H args us vs Q E _ _ _ _ h => ?_⟩, hm, Fu.kp, b, .nil⟩
      obtain ⟨_, _, _, _, _, _, _, _, q⟩ := h
      exact q.elim
  | succ n ih =>
    intro j x ar ro e
    rw [List.getElem?_map] at e
    cases ej : F[j]? with
    | none => rw [ej] at e; cases e
    | some fd =>
      rw [ej] at e
      cases e
      obtain ⟨st, f, fdd, ps, Fu, b, hm, hl, z⟩ := (hF j fd ej).ex
      cases ep : prim j with
      | some φ =>
        rw [ep] at z
        have ec : callF F κ prim (n + 1) j = φ := by funext ds; show (match prim j with | some φ => φ ds | none => _) = _; rw [ep]
        rw [ec]
        exact ⟨f, fdd, ps, [], FnOk.mono z (Nat.le_add_left 1 n), hm, Fu.kp, b, .nil⟩
      | none =>
        rw [ep] at z
        obtain ⟨S, hk, hc⟩ := z
        have ec : callF F κ prim (n + 1) j = fun ds => ((den (callF F κ prim n) κ fd.body).M (init fd.N.length ds)).bind (retOf fd.ro) := by
          funext ds
          show (match prim j with | some φ => φ ds | none => (match F[j]? with | some fd => runB (callF F κ prim n) κ fd ds | none => .bad)) = _
          rw [ep, ej]
          rfl
        rw [ec]
        exact cal_fn (Γ := gmOf F cons fd) Fu b hm S hl hk hc mg0 ih con
def spLaw (K : PySem.W.Frag) : Sp := fun vs H Q _ => ∃ (a : Addr) (ns : List Int), vs = [.ref a] ∧ SqL K H a (ns.map V.int) ∧ ns.length ≤ 63 ∧ ∀ H', Q (.bl true) H'
theorem ex_pss {X : Cx} {e : List Stmt} {α : Type} {t : α → L2.TS} (h : ∀ a, PSs X e (t a)) : PSs X e (fun Dn σ H => ∃ a, t a Dn σ H) := ⟨fun pins s σ H D I q => q.elim fun a q => (h a).run pins s σ H D I q⟩
def st1 (n : Nat) : AS := (List.replicate n none).set 1 (some .hnd)
theorem st1_some {n i : Nat} {d : D} (h : (st1 n)[i]? = some (some d)) : i = 1 ∧ d = .hnd ∧ 1 < n := by
  unfold st1 at h
  rcases set_some h with ⟨e1, e2, e3⟩ | ⟨_, e⟩
  · cases e2
    rw [List.length_replicate] at e3
    exact ⟨e1.symm, rfl, e3⟩
  · rw [List.getElem?_replicate] at e
    split at e <;> cases e
/-- True comes out, whatever is drawn -/
structure Gives (x : R Fl) : Prop where
  run : x.all fun fl => fl = .rt (.bl true)
theorem law_ok {st : Stmt} {f fH : Addr} {fd fdH : FuncData} {Γ : Gm} {φ : Nat → List D → R D} {κ : Nat → D} {n : Nat} {rest : List Stmt} {c : C} {p1 p2 p3 p4 p5 : Pos} (F : L2.Fun K "law" "law" st f fd) (S : FnScope Γ.N ["script"] (defScope st))
    (hb : defBody st = .Assign [.Name "hand" p1] (.Call (.Name "_law_hand" p2) [.Name "script" p3] [] p4) p5 :: rest) (h0 : Γ.N[0]? = some ("script" : Str)) (h1 : Γ.N[1]? = some ("hand" : Str)) (hv : visB (defScope st) "script" = true) (hl : locB (defScope st) (fun _ => true) "hand" = true) (hg : glB (defScope st) "_law_hand" = true) (hk1 : Γ.kd 1 = false)
    (GH : FnOk P w K mg base L2.CX0 1 fH fdH ["script"] (spHand K)) (bH : Binds K fdH ["script"] []) (kH : PySem.W.keepIn K (.ref fH) = true) (mH : mg "_law_hand" = some (.ref fH))
    (hc : chk Γ c (defScope st) (fun _ => true) (.b false rest) = true) (mg0 : ∀ x, bltB x = true → mg x = none)
    (cal : ∀ j x k ro, Γ.funs[j]? = some (x, k, ro) → C8.Cal P w K mg base (n + 1) x (SpE K k ro (φ j)) []) (con : ∀ j x, Γ.cons[j]? = some x → ∃ u v, mg x = some u ∧ RelV v u ∧ ∀ H F, Sh K H F v (κ j))
    (sem : Gives ((den φ κ c).M (st1 Γ.N.length))) : FnOk P w K mg base L2.CX0 (n + 2) f fd ["script"] (spLaw K) := by
  refine F.ok S (fun vs H Q E h => ?_) (fun cdv A outer s H vs Q E hr h => ?_)
  · obtain ⟨a, ns, rfl, _⟩ := h
    rfl
  · obtain ⟨a, ns, rfl, hS, hlen, k⟩ := h
    have X0 : ∀ B hd hc', XO Γ κ φ (n + 1) ⟨K, hd, hc', B, Γ.kd⟩ (defScope st) (fun _ => true) (cxOf CX0 P w K mg base Γ.N "law" (defScope st) f cdv A outer s H E).nox := fun B hd hc' => ⟨rfl, rfl, rfl, rfl, rfl, rfl, S.nd, hr, mg0, cal, con, rfl⟩
    have X1 := X0 (fun _ => False) none 0
    obtain ⟨v1, v2, v3⟩ := X1.vis hv
    rw [hb]
    refine ⟨_, pss_cons (ps_set (i := 1) S.nd h1 (X1.loc hl).1 (pe_call GH (hr.mono (Nat.le_add_left 1 n)) (X1.gl hg).1 mH kH bH .nil pass0 (pa_cons (pe_var (i := 0) h0 v1 v2 v3) pa_nil)) rfl (X1.loc hl).2)
      (ex_pss fun (z : Option Addr × Addr × (Addr → Prop)) => chk_ok (κ := κ) (φ := φ) c (tg := .b false rest) hc (X0 z.2.2 z.1 z.2.1)), ?_⟩
    have hN : 1 < Γ.N.length := by
      have := (List.getElem?_eq_some_iff.mp h1).1
      exact this
    refine ⟨.ref a, ?_, a, ns, rfl, hS, hlen, fun H' h hc' cs m kp hn hcn ne e1 e2 e3 e4 => ?_⟩
    · unfold L2.start
      rfl
    · refine ⟨(some h, hc', fun b => b = h ∨ b = hc'), st1 Γ.N.length, fun _ => False, ⟨?_, fun i d e => ?_, fun i j d d' a ne k1 k2 e e' _ _ => ?_, fun b z => ?_, fun _ _ z => z, fun b eb => ?_⟩, R.all_mono (fun fl e => ?_) sem.run⟩
      · unfold st1 L2.start
        rw [List.length_set, List.length_replicate, List.length_set, List.length_append, List.length_map, List.length_replicate]
        show Γ.N.length = 1 + (Γ.N.length - 1)
        omega
      · obtain ⟨rfl, rfl, _⟩ := st1_some e
        refine ⟨.ref h, ?_, ?_⟩
        · rw [List.getElem?_set_self]
          unfold L2.start
          rw [List.length_append, List.length_map, List.length_replicate]
          show 1 < 1 + (Γ.N.length - 1)
          omega
        · show SlotR _ (Γ.kd 1) _ _ _ _
          rw [hk1]
          exact .inr ⟨rfl, h, rfl, rfl⟩
      · obtain ⟨rfl, _, _⟩ := st1_some e
        exact Bool.false_ne_true (hk1.symm.trans k1)
      · rcases z with (z | z) | z
        · exact ⟨_, by rw [z]; exact e4⟩
        · exact ⟨_, by rw [z]; exact e1⟩
        · exact z.elim
      · cases eb
        exact ⟨⟨.inl rfl, .inr rfl, ne⟩, 0, 0, m, 0, cs, e4, e1, Int.le_refl _, Int.le_refl _, e3, Int.le_refl _, e2⟩
      · subst e
        intro v H2 O2 st2 σ2 _ _ r
        rw [bl_sh (st := st2) (σ := σ2) (O := O2) r]
        exact k H2
end
end EV
/-! a law of turns that keep nothing but the hand -/
namespace EV
open PySem PySem.Spec PyProof.Rows L2 RZ
theorem mask_out {st : AS} : ∀ {i : Nat}, 2 ≤ i → maskA [1] i st = List.replicate st.length none := by
  induction st with
  | nil => exact fun _ => rfl
  | cons x st ih =>
    intro i h
    show (match [1].contains i with | true => x | false => none) :: maskA [1] (i + 1) st = none :: List.replicate st.length none
    rw [ih (by omega)]
    have : [1].contains i = false := by
      simp
      omega
    rw [this]
def okSt (n : Nat) (st : AS) : Bool := Nat.beq st.length n && match st with | _ :: some .hnd :: _ => true | _ => false
theorem okSt_mask {n : Nat} {st : AS} (h : okSt n st = true) : maskA [1] 0 st = st1 n := by
  unfold okSt at h
  rw [Bool.and_eq_true] at h
  have hn := Nat.eq_of_beq_eq_true h.1
  have h2 := h.2
  split at h2
  · rename_i x st
    show none :: some D.hnd :: maskA [1] 2 st = _
    rw [mask_out (Nat.le_refl 2), ← hn]
    rfl
  · cases h2
def okFl (n : Nat) : Fl → Bool
  | .nx st => okSt n st
  | .ct st => okSt n st
  | _ => false
theorem mask_set {i : Nat} {x : Option D} (hi : i ≠ 1) : ∀ {st : AS} {j : Nat}, maskA [1] j (st.set (i - j) x) = maskA [1] j st ∨ i < j := by
  intro st
  induction st with
  | nil => exact fun {j} => .inl (by simp [maskA])
  | cons y st ih =>
    intro j
    by_cases h : i < j
    · exact .inr h
    · left
      by_cases e : i = j
      · subst e
        rw [Nat.sub_self]
        show (match [1].contains i with | true => x | false => none) :: _ = (match [1].contains i with | true => y | false => none) :: _
        have : [1].contains i = false := by simp; exact fun z => hi z
        rw [this]
      · have e2 : i - j = (i - (j + 1)) + 1 := by omega
        rw [e2]
        show _ :: maskA [1] (j + 1) (st.set (i - (j + 1)) x) = _ :: maskA [1] (j + 1) st
        rcases ih (j := j + 1) with q | q
        · rw [q]
        · omega
theorem turns_all {n i : Nat} {m : MS} (hi : i ≠ 1) (h : (m (st1 n)).allb (okFl n) = true) : ∀ (ds : List D) (st : AS), maskA [1] 0 st = st1 n → (forL (.nm i) (sFgt [1] m) ds st).all fun fl => ∃ st', fl = .nx st' ∧ maskA [1] 0 st' = st1 n
  | [], st, e => ⟨st, rfl, e⟩
  | d :: ds, st, e => by
    have e1 : maskA [1] 0 (st.set i (some d)) = st1 n := by
      rcases mask_set (x := some d) hi (st := st) (j := 0) with q | q
      · rw [Nat.sub_zero] at q
        rw [q, e]
      · omega
    show R.all (R.bind (m (maskA [1] 0 (st.set i (some d)))) _) _
    rw [e1]
    refine R.bind_all (R.all_mono (fun fl q => ?_) (R.all_of (fun _ z => z) h))
    cases fl with
    | nx st2 => exact turns_all hi h ds st2 (okSt_mask q)
    | ct st2 => exact turns_all hi h ds st2 (okSt_mask q)
    | bk _ => cases q
    | rt _ => cases q
def okRt : Fl → Bool
  | .rt (.bl true) => true
  | _ => false
theorem okRt_eq {fl : Fl} (h : okRt fl = true) : fl = .rt (.bl true) := by
  unfold okRt at h
  split at h
  · rfl
  · cases h
theorem law_turns {φ : Nat → List D → R D} {κ : Nat → D} {n i : Nat} {k : Int} {t e : C} (hi : i ≠ 1) (hn : 2 ≤ n) (hk : fits62 k = true) (h : ((den φ κ t).M (st1 n)).allb (okFl n) = true) (h2 : ((den φ κ e).M (st1 n)).allb okRt = true) :
    Gives ((den φ κ (.sq (.for_ (.r1 (.k (.int k))) (.nm i) (.fgt [1] t)) (.fgt [1] e))).M (st1 n)) := by
  constructor
  show R.all (R.bind (R.bind (match fits62 k with | true => R.ok (rng 0 k.toNat, st1 n) | false => .bad) (fun x => forL (.nm i) (sFgt [1] (den φ κ t).M) x.1 x.2)) _) _
  rw [hk]
  have e0 : maskA [1] 0 (st1 n) = st1 n := by
    refine okSt_mask ?_
    unfold okSt st1
    rw [Bool.and_eq_true, List.length_set, List.length_replicate]
    refine ⟨Nat.beq_refl n, ?_⟩
    match n, hn with
    | n + 2, _ => rfl
  refine R.bind_all (R.all_mono (fun fl q => ?_) (turns_all hi h _ _ e0))
  obtain ⟨st', rfl, e'⟩ := q
  show R.all ((den φ κ e).M (maskA [1] 0 st')) _
  rw [e']
  exact R.all_of (fun _ z => okRt_eq z) h2
end EV
/-! a def as the top has made it -/
namespace EV
open PySem PySem.Spec PyProof.Rows L2 RZ
structure DF (K : PySem.W.Frag) (mg : Str → Option Value) (x : Str) (st : Stmt) (ps : List Str) : Prop where
  ex : ∃ (f : Addr) (fd : FuncData), L2.Fun K x x st f fd ∧ Binds K fd ps [] ∧ mg x = some (.ref f) ∧ ∀ (s : Shared) (us : List Value), us.length = ps.length → BindsTo s fd ⟨us, []⟩ (ps.zip us)
theorem df_mk {K : PySem.W.Frag} {mg : Str → Option Value} {h : Heap} (X : K.In h) (G : h.Ns mainGlobals mg) {x : Str} {st : Stmt} {ps : List Str} {f : Addr} {oc : Value} {od an : Option Addr} {osl : Array (Option Value)} {kV doc pm cdv ct : Value}
    (hb : ∀ (kV doc pm : Value) (an : Option Addr) (cdv ct : Value) (us : List Value), us.length = ps.length → bindArgs (PySem.W.fnOf x x (defArgs st) (defBody st) (defScope st) .none kV doc pm an cdv ct) ⟨us, []⟩ = pure (ps.zip us))
    (a : PySem.W.nsIn K mainGlobals x = some (some (.ref f))) (l : K.lookup f = some ⟨oc, od, .func (PySem.W.fnOf x x (defArgs st) (defBody st) (defScope st) .none kV doc pm an cdv ct), osl⟩) (c : PySem.W.codeIn K cdv x = true) (k : PySem.W.keepIn K (.ref f) = true) : DF K mg x st ps := by
  have F := L2.fun_mk (st := st) l c k
  exact ⟨f, _, F, F.binds hb, PySem.W.mg_of X G a, fun s us hl => .of_eq (hb kV doc pm an cdv ct us hl)⟩
theorem con_mk {K : PySem.W.Frag} {mg : Str → Option Value} {h : Heap} (X : K.In h) (G : h.Ns mainGlobals mg) {x : Str} {i : Int} {q : Option (Option Value)} (e : PySem.W.nsIn K mainGlobals x = q) (hq : ∃ t, q = some (some (.int i t))) : ∃ t, mg x = some (.int i t) := by
  obtain ⟨t, rfl⟩ := hq
  exact ⟨t, PySem.W.mg_of X G e⟩
def blts : List Str := ["len", "sum", "all", "any", "tuple", "int", "abs", "list", "sorted", "isinstance", "bool", "str", "dict", "range", "zip", "min", "max", "enumerate", "set"]
theorem blt_mem {x : Str} (h : bltB x = true) : x ∈ blts := by
  unfold bltB at h
  simp only [Bool.or_eq_true, beq_iff_eq] at h
  unfold blts
  rcases h with (((((((((((((((((h | h) | h) | h) | h) | h) | h) | h) | h) | h) | h) | h) | h) | h) | h) | h) | h) | h) | h <;> subst h <;> simp
theorem fnf_mk {P : Program} {w : World} {K : PySem.W.Frag} {mg : Str → Option Value} {base : Heap} {F : List Fd} {cons : List Str} {fd : Fd} {st : Stmt} {ps : List Str} (d : DF K mg fd.nm st ps) (hl : ps.length = fd.ar) (S : FnScope fd.N ps (defScope st)) (hk : ∀ i, i < fd.ar → fd.kd i = false)
    (hc : chk (gmOf F cons fd) fd.body (defScope st) (fun _ => true) (.b fd.ro (defBody st)) = true) : FnF P w K mg base F cons none fd := by
  obtain ⟨f, fdd, Fu, b, hm, _⟩ := d.ex
  exact ⟨st, f, fdd, ps, Fu, b, hm, hl, S, hk, hc⟩
theorem sc_by {N P : List Str} {sc : Scope} (h : C8.scC N P sc = true) : FnScope N P sc := C8.fnScope_by h
def muOk (fd : Fd) : Bool := fd.mu.all fun i => Nat.ble fd.ar i
theorem mu_ok {fd : Fd} (h : muOk fd = true) : ∀ i, i < fd.ar → fd.kd i = false := by
  intro i hi
  unfold Fd.kd
  cases e : fd.mu.contains i with
  | false => rfl
  | true =>
    have := Nat.le_of_ble_eq_true (List.all_eq_true.mp h i (by simpa using e))
    omega
/-- the law, from its parts -/
theorem law_all {l : PySem.W.OpenLaw} {w : World} {K : PySem.W.Frag} {mg : Str → Option Value} {fa : Addr} {F : List Fd} {Γ : Gm} {κ : Nat → D} {prim : Nat → Option (List D → R D)} {n : Nat} {st : Stmt} {rest : List Stmt} {c : C} {p1 p2 p3 p4 p5 : Pos} (hfa : mg "law" = some (.ref fa))
    (hf : Γ.funs = F.map fun g => (g.nm, g.ar, g.ro)) (mg0 : ∀ x ∈ blts, mg x = none) (con : ∀ j x, Γ.cons[j]? = some x → ∃ u v, mg x = some u ∧ RelV v u ∧ ∀ H F, Sh K H F v (κ j)) (DL : DF K mg "law" st ["script"]) (DH : DF K mg "_law_hand" sHand ["script"])
    (hF : ∀ base : Heap, ∀ j fd, F[j]? = some fd → FnF l.prog w K mg base F Γ.cons (prim j) fd) (S : FnScope Γ.N ["script"] (defScope st))
    (hb : defBody st = .Assign [.Name "hand" p1] (.Call (.Name "_law_hand" p2) [.Name "script" p3] [] p4) p5 :: rest) (h0 : Γ.N[0]? = some ("script" : Str)) (h1 : Γ.N[1]? = some ("hand" : Str)) (hv : visB (defScope st) "script" = true) (hl : locB (defScope st) (fun _ => true) "hand" = true) (hg : glB (defScope st) "_law_hand" = true) (hk1 : Γ.kd 1 = false)
    (hc : chk Γ c (defScope st) (fun _ => true) (.b false rest) = true) (sem : Gives ((den (callF F κ prim (n + 1)) κ c).M (st1 Γ.N.length))) :
    ∃ fd : FuncData, (∀ (s : Shared) (v : Value), BindsTo s fd ⟨[v], []⟩ [("script", v)]) ∧ ∀ base : Heap, K.In base → base.Ns mainGlobals mg → FnOk l.prog w K mg base L2.CX0 (n + 2) fa fd ["script"] (spLaw K) := by
  have mg0' : ∀ x, bltB x = true → mg x = none := fun x h => mg0 x (blt_mem h)
  obtain ⟨f, fd, Fu, b, hm, bt⟩ := DL.ex
  cases hfa.symm.trans hm
  obtain ⟨fH, fdH, FuH, bH, hmH, _⟩ := DH.ex
  refine ⟨fd, fun s v => bt s [v] rfl, fun base _ _ => ?_⟩
  exact law_ok Fu S hb h0 h1 hv hl hg hk1 (ok_hand FuH mg0') bH FuH.kp hmH hc mg0' (fun j x k ro e => cals mg0' con (hF base) (n + 1) j x k ro (by rw [← hf]; exact e)) con sem
end EV
/-! calls whose arguments and answers are written out first (so that the kernel meets a call again that it has met) -/
namespace EV
open PySem PySem.Spec PyProof.Rows L2
def run0 (N : Nat) (m : MS) (ds : List D) : R D := (m (init N ds)).bind (retOf false)
def run1 (N : Nat) (m : MS) (ds : List D) : R D := (m (init N ds)).bind (retOf true)
section
variable {α : Type}
def fcN (n : Nat) (k : Nat → α) : α := match n with | 0 => k 0 | m + 1 => k (m + 1)
def fcI (i : Int) (k : Int → α) : α := match i with | .ofNat n => fcN n fun n => k (.ofNat n) | .negSucc n => fcN n fun n => k (.negSucc n)
def fcL (f : D → (D → α) → α) : List D → (List D → α) → α
  | [], k => k []
  | x :: xs, k => f x fun x => fcL f xs fun xs => k (x :: xs)
def fc : Nat → D → (D → α) → α
  | 0, d, k => k d
  | n + 1, d, k => match d with
    | .int i => fcI i fun i => k (.int i)
    | .bl b => (match b with | true => k (.bl true) | false => k (.bl false))
    | .tup xs => fcL (fc n) xs fun xs => k (.tup xs)
    | .lst xs => fcL (fc n) xs fun xs => k (.lst xs)
    | .non => k .non
    | .hnd => k .hnd
    | .dic => k .dic
    | .str x => k (.str x)
theorem fcN_eq (n : Nat) (k : Nat → α) : fcN n k = k n := by cases n <;> rfl
theorem fcI_eq (i : Int) (k : Int → α) : fcI i k = k i := by
  cases i with
  | ofNat n => exact fcN_eq n fun n => k (.ofNat n)
  | negSucc n => exact fcN_eq n fun n => k (.negSucc n)
theorem fcL_eq {f : D → (D → α) → α} (hf : ∀ d k, f d k = k d) : ∀ (xs : List D) (k : List D → α), fcL f xs k = k xs
  | [], _ => rfl
  | x :: xs, k => by
    show f x _ = _
    rw [hf]
    exact fcL_eq hf xs _
theorem fc_eq : ∀ (n : Nat) (d : D) (k : D → α), fc n d k = k d
  | 0, _, _ => rfl
  | n + 1, d, k => by
    cases d with
    | int i => exact fcI_eq i fun i => k (.int i)
    | bl b => cases b <;> rfl
    | tup xs => exact fcL_eq (fc_eq n) xs fun xs => k (.tup xs)
    | lst xs => exact fcL_eq (fc_eq n) xs fun xs => k (.lst xs)
    | _ => rfl
end
def mCallF (φ : List D → R D) (l : ML) : ME := fun st => (l st).bind fun p => fcL (fc 6) p.1 fun ds => (φ ds).bind fun r => fc 6 r fun r => .ok (r, p.2)
theorem mCallF_eq (φ : List D → R D) (l : ML) : mCallF φ l = mCall φ l := by
  funext st
  unfold mCallF mCall
  congr 1
  funext p
  rw [fcL_eq (fc_eq 6)]
  congr 1
  funext r
  rw [fc_eq]
/-! draws taken apart -/
section
variable {α : Type}
def R.to (x : R α) (d : Nat) : R α := match x with | .dr _ k => k d | x => x
def R.isDr (x : R α) (n : Nat) : Bool := match x with | .dr m _ => Nat.beq m n | _ => false
theorem allb_dr {x : R α} {p : α → Bool} (n : Nat) (h : x.isDr n = true) (hd : ∀ d, d < n → (x.to d).allb p = true) : x.allb p = true := by
  cases x with
  | dr m k =>
    have e : m = n := Nat.eq_of_beq_eq_true h
    subst e
    unfold R.allb
    exact List.all_eq_true.mpr fun d hm => hd d (List.mem_range.mp hm)
  | ok a => cases h
  | bad => cases h
def R.rg (x : R α) (p : α → Bool) : Nat → Nat → Bool
  | 0, _ => true
  | c + 1, lo => match (x.to lo).allb p with | true => R.rg x p c (lo + 1) | false => false
theorem rg_ok {x : R α} {p : α → Bool} : ∀ {c lo : Nat}, x.rg p c lo = true → ∀ d, lo ≤ d → d < lo + c → (x.to d).allb p = true
  | 0, lo, _, d, h1, h2 => by omega
  | c + 1, lo, h, d, h1, h2 => by
    unfold R.rg at h
    cases e : (x.to lo).allb p with
    | false => rw [e] at h; cases h
    | true =>
      rw [e] at h
      by_cases q : d = lo
      · rw [q]; exact e
      · exact rg_ok h d (by omega) (by omega)
end
end EV
/-! the evaluator's words again, in a form that the kernel evaluates fast -/
namespace EV
open PySem PySem.Spec PyProof.Rows L2
noncomputable section
section
variable {α β : Type}
def bindK (x : R α) (f : α → R β) : R β := R.rec (motive := fun _ => R β) (fun a => f a) (fun n _ ih => .dr n ih) .bad x
theorem bindK_eq (x : R α) (f : α → R β) : bindK x f = R.bind x f := by
  induction x with
  | ok a => rfl
  | bad => rfl
  | dr n k ih =>
    show R.dr n _ = R.dr n _
    congr 1
    funext d
    exact ih d
def opK (o : Option α) (f : α → R β) : R β := Option.rec (motive := fun _ => R β) .bad (fun a => f a) o
def ooK (o : Option α) (f : α → Option β) : Option β := Option.rec (motive := fun _ => Option β) none (fun a => f a) o
def bK (b : Bool) (x y : α) : α := Bool.rec (motive := fun _ => α) y x b
theorem bK_t (x y : α) : bK true x y = x := rfl
theorem bK_f (x y : α) : bK false x y = y := rfl
end
section
variable {α β : Type}
theorem opK_none (f : α → R β) : opK none f = .bad := rfl
theorem opK_some (a : α) (f : α → R β) : opK (some a) f = f a := rfl
theorem ooK_none (f : α → Option β) : ooK none f = none := rfl
theorem ooK_some (a : α) (f : α → Option β) : ooK (some a) f = f a := rfl
theorem bd_ok (a : α) (f : α → R β) : R.bind (.ok a) f = f a := rfl
theorem bd_bad (f : α → R β) : R.bind .bad f = .bad := rfl
end
/-! slots -/
abbrev GS := AS → Option D
abbrev SS := Option D → AS → AS
def hdK : GS := fun st => List.rec (motive := fun _ => Option D) none (fun x _ _ => x) st
def tlK (k : GS) : GS := fun st => List.rec (motive := fun _ => Option D) none (fun _ r _ => k r) st
def s0K : SS := fun v st => List.rec (motive := fun _ => AS) [] (fun _ r _ => v :: r) st
def stK (k : SS) : SS := fun v st => List.rec (motive := fun _ => AS) [] (fun x r _ => x :: k v r) st
structure GI (i : Nat) (g : GS) : Prop where
  eq : ∀ st, g st = getS st i
structure SI (i : Nat) (s : SS) : Prop where
  eq : ∀ v st, s v st = st.set i v
theorem GI.zero : GI 0 hdK := ⟨fun st => by cases st <;> rfl⟩
theorem GI.succ {i : Nat} {g : GS} (h : GI i g) : GI (i + 1) (tlK g) := ⟨fun st => by
  cases st with
  | nil => rfl
  | cons x r => exact h.eq r⟩
theorem SI.zero : SI 0 s0K := ⟨fun v st => by cases st <;> rfl⟩
theorem SI.succ {i : Nat} {s : SS} (h : SI i s) : SI (i + 1) (stK s) := ⟨fun v st => by
  cases st with
  | nil => rfl
  | cons x r => exact congrArg (x :: ·) (h.eq v r)⟩
/-! pure expressions -/
abbrev PX := AS → Option D
abbrev PB := AS → Option Bool
abbrev PL := AS → Option (List D)
def liE (e : PX) : ME := fun st => opK (e st) fun d => .ok (d, st)
def liT (e : PB) : MT := fun st => opK (e st) fun d => .ok (d, st)
def liL (e : PL) : ML := fun st => opK (e st) fun d => .ok (d, st)
def liI (e : PL) : MI := fun st => opK (e st) fun d => .ok (d, st)
def pK (d : D) : PX := fun _ => some d
def p1 (op : D → Option D) (a : PX) : PX := fun st => ooK (a st) fun x => op x
def p2 (op : D → D → Option D) (a b : PX) : PX := fun st => ooK (a st) fun x => ooK (b st) fun y => op x y
def dB (d : D) : Option Bool := match d with | .bl b => some b | _ => none
def dBK (d : D) : Option Bool := D.casesOn d none (fun b => some b) (fun _ => none) (fun _ => none) (fun _ => none) (fun _ => none) none none
def pT (a : PX) : PB := fun st => ooK (a st) fun x => dBK x
def pNotT (a : PB) : PB := fun st => ooK (a st) fun b => bK b (some false) (some true)
def pAndT (a b : PB) : PB := fun st => ooK (a st) fun x => bK x (b st) (some false)
def pOrT (a b : PB) : PB := fun st => ooK (a st) fun x => bK x (some true) (b st)
def pB (a : PB) : PX := fun st => ooK (a st) fun b => some (.bl b)
def pNotE (a : PX) : PX := fun st => ooK (a st) fun x => ooK (dBK x) fun b => bK b (some (.bl false)) (some (.bl true))
def pAndE (a b : PX) : PX := fun st => ooK (a st) fun x => ooK (dBK x) fun c => bK c (b st) (some (.bl false))
def pOrE (a b : PX) : PX := fun st => ooK (a st) fun x => ooK (dBK x) fun c => bK c (some (.bl true)) (b st)
def pIf (t : PB) (a b : PX) : PX := fun st => ooK (t st) fun c => bK c (a st) (b st)
def pNil : PL := fun _ => some []
def pCons (a : PX) (l : PL) : PL := fun st => ooK (a st) fun x => ooK (l st) fun xs => some (x :: xs)
def seqOk (xs : List D) : Bool := lenOk xs.length && xs.all (fun d => !isH d)
def nHK (d : D) : Bool := D.casesOn d true (fun _ => true) (fun _ => true) (fun _ => true) (fun _ => true) (fun _ => true) false true
def allNH (xs : List D) : Bool := List.rec (motive := fun _ => Bool) true (fun x _ ih => bK (nHK x) ih false) xs
def lenK (xs : List D) (n : Nat) : Bool := List.rec (motive := fun _ => Nat → Bool) (fun n => Nat.ble n 16000000) (fun _ _ ih n => ih (Nat.succ n)) xs n
def pTup (l : PL) : PX := fun st => ooK (l st) fun xs => bK (bK (lenK xs 0) (allNH xs) false) (some (.tup xs)) none
def pLst (l : PL) : PX := fun st => ooK (l st) fun xs => bK (bK (lenK xs 0) (allNH xs) false) (some (.lst xs)) none
theorem dBK_eq (d : D) : dBK d = dB d := by cases d <;> rfl
theorem nHK_eq (d : D) : nHK d = !isH d := by cases d <;> rfl
theorem allNH_eq (xs : List D) : allNH xs = xs.all (fun d => !isH d) := by
  induction xs with
  | nil => rfl
  | cons x r ih =>
    show bK (nHK x) (allNH r) false = _
    rw [ih, nHK_eq, List.all_cons]
    cases isH x <;> rfl
theorem lenK_eq : ∀ (xs : List D) (n : Nat), lenK xs n = lenOk (n + xs.length)
  | [], n => rfl
  | x :: r, n => by
    show lenK r (n + 1) = _
    rw [lenK_eq r, List.length_cons]
    congr 1
    omega
theorem seqK_eq (xs : List D) : bK (lenK xs 0) (allNH xs) false = (lenOk xs.length && xs.all (fun d => !isH d)) := by
  rw [lenK_eq, allNH_eq, Nat.zero_add]
  cases lenOk xs.length <;> rfl
/-! the same as the evaluator's -/
section
variable {i : Nat} {g : GS} {s : SS}
theorem q_k (d : D) : liE (pK d) = mK d := rfl
theorem q_v (h : GI i g) : liE g = mV i := by
  funext st
  unfold liE mV
  rw [h.eq]
  cases getS st i <;> rfl
theorem q_1 (op : D → Option D) (a : PX) : liE (p1 op a) = m1 op (liE a) := by
  funext st
  dsimp only [liE, p1, m1]
  cases a st with
  | none => rfl
  | some x =>
    show opK (op x) _ = (match op x with | some d => _ | none => _)
    cases op x <;> rfl
theorem q_2 (op : D → D → Option D) (a b : PX) : liE (p2 op a b) = m2 op (liE a) (liE b) := by
  funext st
  dsimp only [liE, p2, m2]
  cases ha : a st with
  | none => rfl
  | some x =>
    simp only [ooK_some, opK_some, bd_ok]
    cases hb : b st with
    | none => rfl
    | some y =>
      simp only [ooK_some, opK_some, bd_ok]
      cases op x y <;> rfl
theorem q_T (a : PX) : liT (pT a) = tVal (liE a) := by
  funext st
  dsimp only [liT, pT, tVal, liE]
  cases a st with
  | none => rfl
  | some x => cases x <;> rfl
theorem q_notT (a : PB) : liT (pNotT a) = tNot (liT a) := by
  funext st
  dsimp only [liT, pNotT, tNot]
  cases a st with
  | none => rfl
  | some x => cases x <;> rfl
theorem q_andT (a b : PB) : liT (pAndT a b) = tAnd (liT a) (liT b) := by
  funext st
  dsimp only [liT, pAndT, tAnd]
  cases a st with
  | none => rfl
  | some x => cases x <;> rfl
theorem q_orT (a b : PB) : liT (pOrT a b) = tOr (liT a) (liT b) := by
  funext st
  dsimp only [liT, pOrT, tOr]
  cases a st with
  | none => rfl
  | some x => cases x <;> rfl
theorem q_notE (a : PX) : liE (pNotE a) = mNot (liE a) := by
  funext st
  dsimp only [liE, pNotE, mNot]
  cases a st with
  | none => rfl
  | some x =>
    cases x with
    | bl b => cases b <;> rfl
    | _ => rfl
theorem q_andE (a b : PX) : liE (pAndE a b) = mAnd (liE a) (liE b) := by
  funext st
  dsimp only [liE, pAndE, mAnd]
  cases a st with
  | none => rfl
  | some x =>
    cases x with
    | bl b => cases b <;> rfl
    | _ => rfl
theorem q_orE (a b : PX) : liE (pOrE a b) = mOr (liE a) (liE b) := by
  funext st
  dsimp only [liE, pOrE, mOr]
  cases a st with
  | none => rfl
  | some x =>
    cases x with
    | bl b => cases b <;> rfl
    | _ => rfl
theorem q_if (t : PB) (a b : PX) : liE (pIf t a b) = mIf (liT t) (liE a) (liE b) := by
  funext st
  dsimp only [liE, pIf, mIf, liT]
  cases t st with
  | none => rfl
  | some x => cases x <;> rfl
theorem q_nil : liL pNil = lNil := rfl
theorem q_cons (a : PX) (l : PL) : liL (pCons a l) = lCons (liE a) (liL l) := by
  funext st
  dsimp only [liL, pCons, lCons, liE]
  cases a st with
  | none => rfl
  | some x =>
    simp only [ooK_some, opK_some, bd_ok]
    cases l st <;> rfl
theorem q_tup (l : PL) : liE (pTup l) = mTup (liL l) := by
  funext st
  dsimp only [liE, pTup, mTup, liL]
  cases l st with
  | none => rfl
  | some xs =>
    show opK (bK (bK (lenK xs 0) (allNH xs) false) _ _) _ = (match lenOk xs.length && xs.all (fun d => !isH d) with | true => _ | false => _)
    rw [seqK_eq]
    cases (lenOk xs.length && xs.all (fun d => !isH d)) <;> rfl
theorem q_lst (l : PL) : liE (pLst l) = mLst (liL l) := by
  funext st
  dsimp only [liE, pLst, mLst, liL]
  cases l st with
  | none => rfl
  | some xs =>
    show opK (bK (bK (lenK xs 0) (allNH xs) false) _ _) _ = (match lenOk xs.length && xs.all (fun d => !isH d) with | true => _ | false => _)
    rw [seqK_eq]
    cases (lenOk xs.length && xs.all (fun d => !isH d)) <;> rfl
end
/-! slices -/
abbrev PO' := AS → Option (Option Int)
def liO (e : PO') : MO := fun st => opK (e st) fun d => .ok (d, st)
def pNo : PO' := fun _ => some none
def dI (d : D) : Option Int := match d with | .int i => some i | _ => none
def dIK (d : D) : Option Int := D.casesOn d none (fun _ => none) (fun i => some i) (fun _ => none) (fun _ => none) (fun _ => none) none none
def pPart (a : PX) : PO' := fun st => ooK (a st) fun x => ooK (dIK x) fun i => some (some i)
def slD (own : Bool) (x : D) (lo hi : Option Int) : Option D := match x with
  | .lst xs => some (.lst (cutD xs lo hi))
  | .tup xs => bK own none (some (.tup (cutD xs lo hi)))
  | _ => none
def pSl (own : Bool) (a : PX) (lo hi : PO') : PX := fun st => ooK (a st) fun x => ooK (lo st) fun l => ooK (hi st) fun h => slD own x l h
theorem q_no : liO pNo = mNo := rfl
theorem q_part (a : PX) : liO (pPart a) = mPart (liE a) := by
  funext st
  dsimp only [liO, pPart, mPart, liE]
  cases a st with
  | none => rfl
  | some x => cases x <;> rfl
theorem q_sl (own : Bool) (a : PX) (lo hi : PO') : liE (pSl own a lo hi) = mSl own (liE a) (liO lo) (liO hi) := by
  funext st
  dsimp only [liE, pSl, mSl, liO]
  cases a st with
  | none => rfl
  | some x =>
    simp only [ooK_some, opK_some, bd_ok]
    cases lo st with
    | none => rfl
    | some l =>
      simp only [ooK_some, opK_some, bd_ok]
      cases hi st with
      | none => rfl
      | some h =>
        simp only [ooK_some, opK_some, bd_ok]
        cases x with
        | tup xs => cases own <;> rfl
        | _ => rfl
end
end EV
/-! .. statements, comprehensions, calls -/
namespace EV
open PySem PySem.Spec PyProof.Rows L2
noncomputable section
theorem bd_assoc {α β γ : Type} {f : α → R β} {g : β → R γ} : ∀ x : R α, R.bind (R.bind x f) g = R.bind x fun a => R.bind (f a) g
  | .ok _ => rfl
  | .bad => rfl
  | .dr n k => congrArg (R.dr n) (funext fun d => bd_assoc (k d))
theorem bd_id {α : Type} : ∀ x : R α, R.bind x .ok = x
  | .ok _ => rfl
  | .bad => rfl
  | .dr n k => congrArg (R.dr n) (funext fun d => bd_id (k d))
theorem opK_bd {α β γ : Type} (o : Option α) (f : α → R β) (g : β → R γ) : R.bind (opK o f) g = opK o fun a => R.bind (f a) g := by cases o <;> rfl
theorem opK_oo {α β γ : Type} (o : Option α) (f : α → Option β) (g : β → R γ) : opK (ooK o f) g = opK o fun a => opK (f a) g := by cases o <;> rfl
theorem bK_bd {β γ : Type} (c : Bool) (x y : R β) (g : β → R γ) : R.bind (bK c x y) g = bK c (R.bind x g) (R.bind y g) := by cases c <;> rfl
theorem bK_op {β γ : Type} (c : Bool) (x y : Option β) (g : β → R γ) : opK (bK c x y) g = bK c (opK x g) (opK y g) := by cases c <;> rfl
theorem bK_m {β : Type} (c : Bool) (x y : β) : bK c x y = (match c with | true => x | false => y) := by cases c <;> rfl
/-! targets -/
abbrev AT := D → AS → Option AS
abbrev ALs := List D → AS → Option AS
structure PtI (p : Pat) (A : AT) : Prop where
  eq : ∀ d st, A d st = asg p d st
structure PlI (p : Pat) (A : ALs) : Prop where
  eq : ∀ ds st, A ds st = asg p (.lst ds) st
def aNm (s : SS) : AT := fun d st => some (s (some d) st)
def aTp (A : ALs) : AT := fun d st => D.casesOn d none (fun _ => none) (fun _ => none) (fun _ => none) (fun xs => A xs st) (fun xs => A xs st) none none
def aNil : ALs := fun xs st => List.rec (motive := fun _ => Option AS) (some st) (fun _ _ _ => none) xs
def aCons (A : AT) (B : ALs) : ALs := fun xs st => List.rec (motive := fun _ => Option AS) none (fun x r _ => ooK (A x st) fun st1 => B r st1) xs
theorem PtI.nm {i : Nat} {s : SS} (h : SI i s) : PtI (.nm i) (aNm s) := ⟨fun d st => by
  show some _ = some _
  rw [h.eq]⟩
theorem PtI.tp {p : Pat} {A : ALs} (h : PlI p A) : PtI (.tp p) (aTp A) := ⟨fun d st => by
  cases d with
  | tup xs => exact h.eq xs st
  | lst xs => exact h.eq xs st
  | _ => rfl⟩
theorem PlI.nil : PlI .nil aNil := ⟨fun xs st => by cases xs <;> rfl⟩
theorem PlI.cons {p q : Pat} {A : AT} {B : ALs} (h : PtI p A) (h2 : PlI q B) : PlI (.cons p q) (aCons A B) := ⟨fun xs st => by
  cases xs with
  | nil => rfl
  | cons x r =>
    show ooK (A x st) _ = (match asg p x st with | some st' => asg q (.lst r) st' | none => none)
    rw [h.eq]
    cases asg p x st with
    | none => rfl
    | some st1 => exact h2.eq r st1⟩
structure WI (own : List Nat) (w : AS → AS) : Prop where
  eq : ∀ st, w st = wipeA st own
theorem WI.nil : WI [] id := ⟨fun _ => rfl⟩
theorem WI.cons {i : Nat} {own : List Nat} {s : SS} {w : AS → AS} (h : SI i s) (h2 : WI own w) : WI (i :: own) (fun st => s none (w st)) := ⟨fun st => by
  show s none (w st) = (wipeA st own).set i none
  rw [h.eq, h2.eq]⟩
/-! chains, comprehensions -/
def pChain (p q : Int → Int → Bool) (a b c : PX) : PX := fun st => ooK (a st) fun x => ooK (dIK x) fun i => ooK (b st) fun y => ooK (dIK y) fun j => bK (p i j) (ooK (c st) fun z => ooK (dIK z) fun k => some (.bl (q j k))) (some (.bl false))
theorem q_chain (p q : Int → Int → Bool) (a b c : PX) : liE (pChain p q a b c) = mChain p q (liE a) (liE b) (liE c) := by
  funext st
  dsimp only [liE, pChain, mChain]
  cases a st with
  | none => rfl
  | some x =>
    simp only [ooK_some, opK_some, bd_ok]
    cases b st with
    | none => cases x <;> rfl
    | some y =>
      simp only [ooK_some, opK_some, bd_ok]
      cases x with
      | int i =>
        cases y with
        | int j =>
          show opK (bK (p i j) _ _) _ = (match p i j with | true => _ | false => _)
          cases p i j with
          | false => rfl
          | true =>
            show opK (ooK (c st) _) _ = R.bind (opK (c st) _) _
            cases c st with
            | none => rfl
            | some z => cases z <;> rfl
        | _ => rfl
      | _ => rfl
def lcP (A : AT) (c : PB) (e : PX) (st : AS) (ds : List D) : Nat → Option (List D) := List.rec (motive := fun _ => Nat → Option (List D)) (fun _ => some [])
  (fun d _ ih n => ooK (A d st) fun st1 => ooK (c st1) fun b => bK b (ooK (e st1) fun x => bK (nHK x) (bK (Nat.ble n 16000000) (ooK (ih (Nat.succ n)) fun r => some (x :: r)) none) none) (ih n)) ds
theorem cc_if (a b : Bool) {α : Type} (x y : α) : (match a || !b with | true => x | false => y) = bK (!a) (bK b y x) x := by cases a <;> cases b <;> rfl
theorem lcP_eq {p : Pat} {A : AT} (hA : PtI p A) (c : PB) (e : PX) (st : AS) : ∀ (ds acc : List D), lcL p (liT c) (liE e) st ds acc = opK (lcP A c e st ds acc.length) fun r => .ok (acc ++ r)
  | [], acc => by
    show R.ok acc = R.ok (acc ++ [])
    rw [List.append_nil]
  | d :: r, acc => by
    show (match asg p d st with | some st1 => _ | none => R.bad) = opK (ooK (A d st) _) _
    rw [hA.eq]
    cases asg p d st with
    | none => rfl
    | some st1 =>
      show R.bind (opK (c st1) _) _ = opK (ooK (c st1) _) _
      cases c st1 with
      | none => rfl
      | some b =>
        cases b with
        | false => exact lcP_eq hA c e st r acc
        | true =>
          show R.bind (opK (e st1) _) _ = opK (ooK (e st1) _) _
          cases e st1 with
          | none => rfl
          | some x =>
            show (match isH x || !(lenOk acc.length) with | true => R.bad | false => lcL p (liT c) (liE e) st r (acc ++ [x])) = opK (bK (nHK x) (bK (lenOk acc.length) (ooK (lcP A c e st r (acc.length + 1)) _) none) none) _
            rw [cc_if, ← nHK_eq, bK_op, bK_op, lcP_eq hA c e st r (acc ++ [x]), List.length_append]
            congr 2
            show opK (lcP A c e st r (acc.length + 1)) _ = opK (ooK (lcP A c e st r (acc.length + 1)) _) _
            cases lcP A c e st r (acc.length + 1) with
            | none => rfl
            | some l =>
              show R.ok (acc ++ [x] ++ l) = R.ok (acc ++ (x :: l))
              rw [List.append_assoc]
              rfl
def pLc (s : PL) (A : AT) (w : AS → AS) (c : PB) (e : PX) : PX := fun st => ooK (s st) fun ds => ooK (lcP A c e (w st) ds 0) fun l => some (.lst l)
theorem q_lc {p : Pat} {A : AT} {own : List Nat} {w : AS → AS} (hA : PtI p A) (hw : WI own w) (s : PL) (c : PB) (e : PX) : liE (pLc s A w c e) = mLc (liI s) p (liT c) (liE e) own := by
  funext st
  dsimp only [liE, pLc, mLc, liI]
  cases s st with
  | none => rfl
  | some ds =>
    simp only [ooK_some, opK_some, bd_ok]
    have := lcP_eq hA c e (wipeA st own) ds []
    rw [this, hw.eq]
    show _ = R.bind (opK (lcP A c e (wipeA st own) ds 0) _) _
    cases lcP A c e (wipeA st own) ds 0 <;> rfl
def pYes : PB := fun _ => some true
theorem q_yes : liT pYes = tYesM := rfl
/-! .. with calls -/
def lcK (A : AT) (c : MT) (e : ME) (st : AS) (ds : List D) : Nat → R (List D) := List.rec (motive := fun _ => Nat → R (List D)) (fun _ => .ok [])
  (fun d _ ih n => opK (A d st) fun st1 => bindK (c st1) fun b => bK b.1 (bindK (e st1) fun x => bK (nHK x.1) (bK (Nat.ble n 16000000) (bindK (ih (Nat.succ n)) fun r => .ok (x.1 :: r)) .bad) .bad) (ih n)) ds
theorem lcK_eq {p : Pat} {A : AT} (hA : PtI p A) (c : MT) (e : ME) (st : AS) : ∀ (ds acc : List D), lcL p c e st ds acc = R.bind (lcK A c e st ds acc.length) fun r => .ok (acc ++ r)
  | [], acc => by
    show R.ok acc = R.ok (acc ++ [])
    rw [List.append_nil]
  | d :: r, acc => by
    show (match asg p d st with | some st1 => _ | none => R.bad) = R.bind (opK (A d st) _) _
    rw [hA.eq]
    cases asg p d st with
    | none => rfl
    | some st1 =>
      show R.bind (c st1) _ = R.bind (bindK (c st1) _) _
      rw [bindK_eq, bd_assoc]
      congr 1
      funext b
      obtain ⟨b, sb⟩ := b
      cases b with
      | false => exact lcK_eq hA c e st r acc
      | true =>
        show R.bind (e st1) _ = R.bind (bindK (e st1) _) _
        rw [bindK_eq, bd_assoc]
        congr 1
        funext x
        show (match isH x.1 || !(lenOk acc.length) with | true => R.bad | false => lcL p c e st r (acc ++ [x.1])) = R.bind (bK (nHK x.1) (bK (lenOk acc.length) (bindK (lcK A c e st r (acc.length + 1)) _) .bad) .bad) _
        rw [cc_if, ← nHK_eq, bK_bd, bK_bd, lcK_eq hA c e st r (acc ++ [x.1]), List.length_append, bindK_eq, bd_assoc]
        congr 2
        show R.bind (lcK A c e st r (acc.length + 1)) _ = R.bind (lcK A c e st r (acc.length + 1)) _
        congr 1
        funext l
        show R.ok (acc ++ [x.1] ++ l) = R.ok (acc ++ (x.1 :: l))
        rw [List.append_assoc]
        rfl
def mLcK (s : MI) (A : AT) (w : AS → AS) (c : MT) (e : ME) : ME := fun st => bindK (s st) fun x => bindK (lcK A c e (w x.2) x.1 0) fun l => .ok (.lst l, x.2)
theorem q_lcK {p : Pat} {A : AT} {own : List Nat} {w : AS → AS} (hA : PtI p A) (hw : WI own w) (s : MI) (c : MT) (e : ME) : mLcK s A w c e = mLc s p c e own := by
  funext st
  unfold mLcK mLc
  rw [bindK_eq]
  congr 1
  funext x
  rw [bindK_eq, lcK_eq hA, hw.eq]
  show R.bind (lcK A c e (wipeA x.2 own) x.1 0) _ = R.bind (R.bind (lcK A c e (wipeA x.2 own) x.1 0) _) _
  rw [bd_assoc]
  rfl
/-! sources -/
def sqD (d : D) : Option (List D) := D.casesOn d none (fun _ => none) (fun _ => none) (fun _ => none) (fun xs => some xs) (fun xs => some xs) none none
def pSeq (a : PX) : PL := fun st => ooK (a st) fun x => sqD x
theorem q_seq (a : PX) : liI (pSeq a) = sSeq (liE a) := by
  funext st
  dsimp only [liI, pSeq, sSeq, liE]
  cases a st with
  | none => rfl
  | some x => cases x <;> rfl
def rngK (n : Nat) : Int → List D := Nat.rec (motive := fun _ => Int → List D) (fun _ => []) (fun _ ih lo => fcI lo fun lo => .int lo :: ih (lo + 1)) n
theorem rngK_eq : ∀ (n : Nat) (lo : Int), rngK n lo = rng lo n
  | 0, _ => rfl
  | n + 1, lo => by
    show fcI lo (fun lo => D.int lo :: rngK n (lo + 1)) = _
    rw [fcI_eq, rngK_eq n]
    rfl
def pR1 (a : PX) : PL := fun st => ooK (a st) fun x => ooK (dIK x) fun n => bK (fits62 n) (some (rngK n.toNat 0)) none
theorem q_r1 (a : PX) : liI (pR1 a) = sR1 (liE a) := by
  funext st
  dsimp only [liI, pR1, sR1, liE]
  cases a st with
  | none => rfl
  | some x =>
    cases x with
    | int n =>
      show opK (bK (fits62 n) _ _) _ = (match fits62 n with | true => _ | false => _)
      cases fits62 n with
      | true =>
        show R.ok (rngK n.toNat 0, st) = R.ok (rng 0 n.toNat, st)
        rw [rngK_eq]
      | false => rfl
    | _ => rfl
def pR2 (a b : PX) : PL := fun st => ooK (a st) fun x => ooK (b st) fun y => ooK (dIK x) fun i => ooK (dIK y) fun j => bK (bK (fits62 i) (fits62 j) false) (some (rngK (j - i).toNat i)) none
theorem q_r2 (a b : PX) : liI (pR2 a b) = sR2 (liE a) (liE b) := by
  funext st
  dsimp only [liI, pR2, sR2, liE]
  cases a st with
  | none => rfl
  | some x =>
    simp only [ooK_some, opK_some, bd_ok]
    cases b st with
    | none => rfl
    | some y =>
      simp only [ooK_some, opK_some, bd_ok]
      cases x with
      | int i =>
        cases y with
        | int j =>
          show opK (bK (bK (fits62 i) (fits62 j) false) (some (rngK (j - i).toNat i)) none) _ = (match fits62 i && fits62 j with | true => _ | false => _)
          rw [rngK_eq]
          cases fits62 i <;> cases fits62 j <;> rfl
        | _ => rfl
      | _ => rfl
def zipK (xs : List D) : List D → List D := List.rec (motive := fun _ => List D → List D) (fun _ => []) (fun x _ ih ys => List.rec (motive := fun _ => List D) [] (fun y r _ => .tup [x, y] :: ih r) ys) xs
theorem zipK_eq : ∀ xs ys : List D, zipK xs ys = zipD xs ys
  | [], _ => rfl
  | x :: xs, [] => rfl
  | x :: xs, y :: ys => congrArg (D.tup [x, y] :: ·) (zipK_eq xs ys)
def zpD (x y : D) : Option (List D) := match x with
  | .lst xs => match y with | .lst ys => some (zipK xs ys) | _ => none
  | .tup xs => match y with | .tup ys => some (zipK xs ys) | _ => none
  | _ => none
def pZip (a b : PX) : PL := fun st => ooK (a st) fun x => ooK (b st) fun y => zpD x y
theorem q_zip (a b : PX) : liI (pZip a b) = sZip (liE a) (liE b) := by
  funext st
  dsimp only [liI, pZip, sZip, liE]
  cases a st with
  | none => rfl
  | some x =>
    simp only [ooK_some, opK_some, bd_ok]
    cases b st with
    | none => rfl
    | some y =>
      simp only [ooK_some, opK_some, bd_ok]
      cases x <;> cases y <;> simp only [zpD, zipK_eq] <;> rfl
def enumK (xs : List D) : Int → List D := List.rec (motive := fun _ => Int → List D) (fun _ => []) (fun x _ ih i => fcI i fun i => .tup [.int i, x] :: ih (i + 1)) xs
theorem enumK_eq : ∀ (xs : List D) (i : Int), enumK xs i = enumD i xs
  | [], _ => rfl
  | x :: xs, i => by
    show fcI i (fun i => D.tup [.int i, x] :: enumK xs (i + 1)) = _
    rw [fcI_eq, enumK_eq xs]
    rfl
def pEnum (a : PX) : PL := fun st => ooK (a st) fun x => ooK (sqD x) fun xs => some (enumK xs 0)
theorem q_enum (a : PX) : liI (pEnum a) = sEnumT (liE a) := by
  funext st
  dsimp only [liI, pEnum, sEnumT, liE]
  cases a st with
  | none => rfl
  | some x => cases x <;> simp only [enumK_eq, ooK_some, opK_some, bd_ok, sqD] <;> rfl
end
end EV
/-! .. statements, calls -/
namespace EV
open PySem PySem.Spec PyProof.Rows L2
noncomputable section
section
variable {i j k : Nat} {g : GS} {s s2 s3 : SS} {p : Pat} {A : AT}
theorem q_m (hg : GI i g) (hs : SI i s) : (fun st => opK (g st) fun d => .ok (d, s none st)) = mM i := by
  funext st
  unfold mM
  rw [hg.eq, hs.eq]
  cases getS st i <;> rfl
def mMK (g : GS) (s : SS) : ME := fun st => opK (g st) fun d => .ok (d, s none st)
theorem q_mm (hg : GI i g) (hs : SI i s) : mMK g s = mM i := q_m hg hs
def m1K (op : D → Option D) (m : ME) : ME := fun st => bindK (m st) fun p => opK (op p.1) fun d => .ok (d, p.2)
theorem q_m1 (op : D → Option D) (m : ME) : m1K op m = m1 op m := by
  funext st
  unfold m1K m1
  rw [bindK_eq]
  congr 1
  funext p
  cases op p.1 <;> rfl
def m2K (op : D → D → Option D) (m n : ME) : ME := fun st => bindK (m st) fun p => bindK (n p.2) fun q => opK (op p.1 q.1) fun d => .ok (d, q.2)
theorem q_m2 (op : D → D → Option D) (m n : ME) : m2K op m n = m2 op m n := by
  funext st
  unfold m2K m2
  rw [bindK_eq]
  congr 1
  funext p
  rw [bindK_eq]
  congr 1
  funext q
  cases op p.1 q.1 <;> rfl
def tValK (m : ME) : MT := fun st => bindK (m st) fun p => opK (dBK p.1) fun b => .ok (b, p.2)
theorem q_tVal (m : ME) : tValK m = tVal m := by
  funext st
  unfold tValK tVal
  rw [bindK_eq]
  congr 1
  funext p
  obtain ⟨d, s⟩ := p
  cases d <;> rfl
def tAndK (a b : MT) : MT := fun st => bindK (a st) fun p => bK p.1 (b p.2) (.ok (false, p.2))
theorem q_tAnd (a b : MT) : tAndK a b = tAnd a b := by
  funext st
  unfold tAndK tAnd
  rw [bindK_eq]
  congr 1
  funext p
  obtain ⟨c, s⟩ := p
  cases c <;> rfl
def tOrK (a b : MT) : MT := fun st => bindK (a st) fun p => bK p.1 (.ok (true, p.2)) (b p.2)
theorem q_tOr (a b : MT) : tOrK a b = tOr a b := by
  funext st
  unfold tOrK tOr
  rw [bindK_eq]
  congr 1
  funext p
  obtain ⟨c, s⟩ := p
  cases c <;> rfl
def tNotK (a : MT) : MT := fun st => bindK (a st) fun p => .ok (!p.1, p.2)
theorem q_tNot (a : MT) : tNotK a = tNot a := by
  funext st
  unfold tNotK tNot
  rw [bindK_eq]
def mAndK (a b : ME) : ME := fun st => bindK (a st) fun p => opK (dBK p.1) fun c => bK c (b p.2) (.ok (.bl false, p.2))
theorem q_mAnd (a b : ME) : mAndK a b = mAnd a b := by
  funext st
  unfold mAndK mAnd
  rw [bindK_eq]
  congr 1
  funext p
  obtain ⟨d, s⟩ := p
  cases d with
  | bl c => cases c <;> rfl
  | _ => rfl
def mOrK (a b : ME) : ME := fun st => bindK (a st) fun p => opK (dBK p.1) fun c => bK c (.ok (.bl true, p.2)) (b p.2)
theorem q_mOr (a b : ME) : mOrK a b = mOr a b := by
  funext st
  unfold mOrK mOr
  rw [bindK_eq]
  congr 1
  funext p
  obtain ⟨d, s⟩ := p
  cases d with
  | bl c => cases c <;> rfl
  | _ => rfl
def mNotK (a : ME) : ME := fun st => bindK (a st) fun p => opK (dBK p.1) fun c => .ok (.bl (!c), p.2)
theorem q_mNot (a : ME) : mNotK a = mNot a := by
  funext st
  unfold mNotK mNot
  rw [bindK_eq]
  congr 1
  funext p
  obtain ⟨d, s⟩ := p
  cases d <;> rfl
def mIfK (t : MT) (a b : ME) : ME := fun st => bindK (t st) fun p => bK p.1 (a p.2) (b p.2)
theorem q_mIf (t : MT) (a b : ME) : mIfK t a b = mIf t a b := by
  funext st
  unfold mIfK mIf
  rw [bindK_eq]
  congr 1
  funext p
  obtain ⟨c, s⟩ := p
  cases c <;> rfl
def lConsK (m : ME) (l : ML) : ML := fun st => bindK (m st) fun p => bindK (l p.2) fun q => .ok (p.1 :: q.1, q.2)
theorem q_lCons (m : ME) (l : ML) : lConsK m l = lCons m l := by
  funext st
  unfold lConsK lCons
  rw [bindK_eq]
  congr 1
  funext p
  rw [bindK_eq]
def mTupK (l : ML) : ME := fun st => bindK (l st) fun p => bK (bK (lenK p.1 0) (allNH p.1) false) (.ok (.tup p.1, p.2)) .bad
theorem q_mTup (l : ML) : mTupK l = mTup l := by
  funext st
  unfold mTupK mTup
  rw [bindK_eq]
  congr 1
  funext p
  rw [seqK_eq]
  cases (lenOk p.1.length && p.1.all (fun d => !isH d)) <;> rfl
def mLstK (l : ML) : ME := fun st => bindK (l st) fun p => bK (bK (lenK p.1 0) (allNH p.1) false) (.ok (.lst p.1, p.2)) .bad
theorem q_mLst (l : ML) : mLstK l = mLst l := by
  funext st
  unfold mLstK mLst
  rw [bindK_eq]
  congr 1
  funext p
  rw [seqK_eq]
  cases (lenOk p.1.length && p.1.all (fun d => !isH d)) <;> rfl
/-! calls -/
def fcNK {α : Type} (n : Nat) (k : Nat → α) : α := Nat.rec (motive := fun _ => α) (k 0) (fun m _ => k (Nat.succ m)) n
def fcIK {α : Type} (i : Int) (k : Int → α) : α := Int.rec (motive := fun _ => α) (fun n => fcNK n fun n => k (.ofNat n)) (fun n => fcNK n fun n => k (.negSucc n)) i
def fcLK {α : Type} (f : D → (D → α) → α) (xs : List D) : (List D → α) → α := List.rec (motive := fun _ => (List D → α) → α) (fun k => k []) (fun x _ ih k => f x fun x => ih fun xs => k (x :: xs)) xs
def fcK {α : Type} (n : Nat) : D → (D → α) → α := Nat.rec (motive := fun _ => D → (D → α) → α) (fun d k => k d)
  (fun _ ih d k => D.casesOn d (k .non) (fun b => bK b (k (.bl true)) (k (.bl false))) (fun i => fcIK i fun i => k (.int i)) (fun x => k (.str x)) (fun xs => fcLK ih xs fun xs => k (.tup xs)) (fun xs => fcLK ih xs fun xs => k (.lst xs)) (k .hnd) (k .dic)) n
theorem fcNK_eq {α : Type} (n : Nat) (k : Nat → α) : fcNK n k = k n := by cases n <;> rfl
theorem fcIK_eq {α : Type} (i : Int) (k : Int → α) : fcIK i k = k i := by
  cases i with
  | ofNat n => exact fcNK_eq n fun n => k (.ofNat n)
  | negSucc n => exact fcNK_eq n fun n => k (.negSucc n)
theorem fcLK_eq {α : Type} {f : D → (D → α) → α} (hf : ∀ d k, f d k = k d) : ∀ (xs : List D) (k : List D → α), fcLK f xs k = k xs
  | [], _ => rfl
  | x :: xs, k => by
    show f x _ = _
    rw [hf]
    exact fcLK_eq hf xs _
theorem fcK_eq {α : Type} : ∀ (n : Nat) (d : D) (k : D → α), fcK n d k = k d
  | 0, _, _ => rfl
  | n + 1, d, k => by
    cases d with
    | int i => exact fcIK_eq i fun i => k (.int i)
    | bl b => cases b <;> rfl
    | tup xs => exact fcLK_eq (fcK_eq n) xs fun xs => k (.tup xs)
    | lst xs => exact fcLK_eq (fcK_eq n) xs fun xs => k (.lst xs)
    | _ => rfl
def mCallK (φ : List D → R D) (l : ML) : ME := fun st => bindK (l st) fun p => fcLK (fcK 6) p.1 fun ds => bindK (φ ds) fun r => fcK 6 r fun r => .ok (r, p.2)
theorem q_call (φ : List D → R D) (l : ML) : mCallK φ l = mCall φ l := by
  funext st
  unfold mCallK mCall
  rw [bindK_eq]
  congr 1
  funext p
  rw [fcLK_eq (fcK_eq 6), bindK_eq]
  congr 1
  funext r
  rw [fcK_eq]
/-! arguments that are pure -/
def mCallP (φ : List D → R D) (l : PL) : ME := fun st => opK (l st) fun xs => fcLK (fcK 6) xs fun ds => bindK (φ ds) fun r => fcK 6 r fun r => .ok (r, st)
theorem q_callP (φ : List D → R D) (l : PL) : mCallP φ l = mCall φ (liL l) := by
  rw [← q_call]
  funext st
  unfold mCallP mCallK liL
  rw [bindK_eq, opK_bd]
  rfl
/-! statements -/
def flK (f : Fl) (n : AS → R Fl) (r : D → R Fl) (b c : AS → R Fl) : R Fl := Fl.casesOn f n r b c
def sSqK (a b : MS) : MS := fun st => bindK (a st) fun f => flK f b (fun d => .ok (.rt d)) (fun s => .ok (.bk s)) (fun s => .ok (.ct s))
theorem q_sq (a b : MS) : sSqK a b = sSq a b := by
  funext st
  unfold sSqK sSq
  rw [bindK_eq]
  congr 1
  funext f
  cases f <;> rfl
def sRetP (e : PX) : MS := fun st => opK (e st) fun d => .ok (.rt d)
theorem q_retP (e : PX) : sRetP e = sRet (liE e) := by
  funext st
  dsimp only [sRetP, sRet, liE]
  rw [opK_bd]
  rfl
def sRetK (m : ME) : MS := fun st => bindK (m st) fun p => .ok (.rt p.1)
theorem q_retK (m : ME) : sRetK m = sRet m := by
  funext st
  unfold sRetK sRet
  rw [bindK_eq]
def sIfP (t : PB) (a b : MS) : MS := fun st => opK (t st) fun c => bK c (a st) (b st)
theorem q_ifP (t : PB) (a b : MS) : sIfP t a b = sIfS (liT t) a b := by
  funext st
  dsimp only [sIfP, sIfS, liT]
  rw [opK_bd]
  congr 1
  funext c
  rw [bK_m]
  rfl
def sIfK (t : MT) (a b : MS) : MS := fun st => bindK (t st) fun p => bK p.1 (a p.2) (b p.2)
theorem q_ifK (t : MT) (a b : MS) : sIfK t a b = sIfS t a b := by
  funext st
  unfold sIfK sIfS
  rw [bindK_eq]
  congr 1
  funext p
  obtain ⟨c, s⟩ := p
  cases c <;> rfl
def sAsP (A : AT) (e : PX) : MS := fun st => opK (e st) fun x => opK (A x st) fun st' => .ok (.nx st')
theorem q_asP (h : PtI p A) (e : PX) : sAsP A e = sAs p (liE e) := by
  funext st
  dsimp only [sAsP, sAs, liE]
  rw [opK_bd]
  congr 1
  funext x
  rw [h.eq]
  show _ = (match asg p x st with | some st' => R.ok (Fl.nx st') | none => .bad)
  cases asg p x st <;> rfl
def sAsK (A : AT) (m : ME) : MS := fun st => bindK (m st) fun x => opK (A x.1 x.2) fun st' => .ok (.nx st')
theorem q_asK (h : PtI p A) (m : ME) : sAsK A m = sAs p m := by
  funext st
  unfold sAsK sAs
  rw [bindK_eq]
  congr 1
  funext x
  rw [h.eq]
  cases asg p x.1 x.2 <;> rfl
def sAoP (s : SS) (e : PX) : MS := fun st => opK (e st) fun x => .ok (.nx (s (some x) st))
theorem q_aoP (h : SI i s) (e : PX) : sAoP s e = sAo i (liE e) := by
  funext st
  dsimp only [sAoP, sAo, liE]
  rw [opK_bd]
  congr 1
  funext x
  rw [h.eq]
  rfl
def sAoK (s : SS) (m : ME) : MS := fun st => bindK (m st) fun x => .ok (.nx (s (some x.1) x.2))
theorem q_aoK (h : SI i s) (m : ME) : sAoK s m = sAo i m := by
  funext st
  unfold sAoK sAo
  rw [bindK_eq]
  congr 1
  funext x
  rw [h.eq]
def forK (A : AT) (b : MS) (ds : List D) : MS := List.rec (motive := fun _ => AS → R Fl) (fun st => .ok (.nx st))
  (fun d _ ih st => opK (A d st) fun st1 => bindK (b st1) fun f => flK f ih (fun d => .ok (.rt d)) (fun s => .ok (.nx s)) ih) ds
theorem forK_eq (h : PtI p A) (b : MS) : ∀ (ds : List D) (st : AS), forK A b ds st = forL p b ds st
  | [], _ => rfl
  | d :: r, st => by
    show opK (A d st) _ = (match asg p d st with | some st1 => _ | none => _)
    rw [h.eq]
    cases asg p d st with
    | none => rfl
    | some st1 =>
      show bindK (b st1) _ = R.bind (b st1) _
      rw [bindK_eq]
      congr 1
      funext f
      cases f with
      | nx s => exact forK_eq h b r s
      | ct s => exact forK_eq h b r s
      | _ => rfl
def sForP (s : PL) (A : AT) (b : MS) : MS := fun st => opK (s st) fun ds => forK A b ds st
theorem q_forP (h : PtI p A) (s : PL) (b : MS) : sForP s A b = sFor (liI s) p b := by
  funext st
  dsimp only [sForP, sFor, liI]
  rw [opK_bd]
  congr 1
  funext x
  exact forK_eq h b x st
def sForK (s : MI) (A : AT) (b : MS) : MS := fun st => bindK (s st) fun x => forK A b x.1 x.2
theorem q_forK (h : PtI p A) (s : MI) (b : MS) : sForK s A b = sFor s p b := by
  funext st
  unfold sForK sFor
  rw [bindK_eq]
  congr 1
  funext x
  exact forK_eq h b x.1 x.2
def whK (t : MT) (b : MS) (n : Nat) : MS := Nat.rec (motive := fun _ => AS → R Fl) (fun _ => .bad)
  (fun _ ih st => bindK (t st) fun p => bK p.1 (bindK (b p.2) fun f => flK f ih (fun d => .ok (.rt d)) (fun s => .ok (.nx s)) ih) (.ok (.nx p.2))) n
theorem q_wh (t : MT) (b : MS) : ∀ n, whK t b n = sWh n t b
  | 0 => rfl
  | n + 1 => by
    funext st
    show bindK (t st) _ = R.bind (t st) _
    rw [bindK_eq]
    congr 1
    funext p
    rw [bK_m]
    congr 1
    funext _
    show bindK (b p.2) _ = R.bind (b p.2) _
    rw [bindK_eq]
    congr 1
    funext f
    cases f with
    | nx s => exact congrFun (q_wh t b n) s
    | ct s => exact congrFun (q_wh t b n) s
    | _ => rfl
def apK (xs ys : List D) : List D := List.rec (motive := fun _ => List D) ys (fun x _ ih => x :: ih) xs
theorem apK_eq : ∀ xs ys : List D, apK xs ys = xs ++ ys
  | [], _ => rfl
  | x :: xs, ys => congrArg (x :: ·) (apK_eq xs ys)
def lsK (d : D) (f : List D → R Fl) : R Fl := D.casesOn d .bad (fun _ => .bad) (fun _ => .bad) (fun _ => .bad) (fun _ => .bad) f .bad .bad
def sAppP (g : GS) (s : SS) (e : PX) : MS := fun st => opK (g st) fun l => opK (e st) fun x => lsK l fun xs => bK (nHK x) (bK (lenK xs 0) (.ok (.nx (s (some (.lst (apK xs [x]))) st))) .bad) .bad
theorem q_appP (hg : GI i g) (hs : SI i s) (e : PX) : sAppP g s e = sApp i (liE e) := by
  funext st
  dsimp only [sAppP, sApp, liE]
  rw [hg.eq]
  cases hl : getS st i with
  | none => rfl
  | some l =>
    show opK (e st) _ = R.bind (opK (e st) _) _
    rw [opK_bd]
    congr 1
    funext x
    show _ = (match getS st i with | some (.lst xs) => _ | _ => R.bad)
    rw [hl]
    cases l with
    | lst xs =>
      show bK (nHK x) (bK (lenK xs 0) (R.ok (Fl.nx (s (some (.lst (apK xs [x]))) st))) .bad) .bad = _
      rw [hs.eq, apK_eq, lenK_eq, nHK_eq, Nat.zero_add]
      show _ = (match isH x || !(lenOk xs.length) with | true => R.bad | false => _)
      cases isH x <;> cases lenOk xs.length <;> rfl
    | _ => rfl
def sAppK (g : GS) (s : SS) (m : ME) : MS := fun st => opK (g st) fun _ => bindK (m st) fun p => opK (g p.2) fun l => lsK l fun xs => bK (nHK p.1) (bK (lenK xs 0) (.ok (.nx (s (some (.lst (apK xs [p.1]))) p.2))) .bad) .bad
theorem q_appK (hg : GI i g) (hs : SI i s) (m : ME) : sAppK g s m = sApp i m := by
  funext st
  dsimp only [sAppK, sApp]
  rw [hg.eq]
  cases getS st i with
  | none => rfl
  | some l0 =>
    show bindK (m st) _ = R.bind (m st) _
    rw [bindK_eq]
    congr 1
    funext p
    rw [hg.eq]
    cases getS p.2 i with
    | none => rfl
    | some l =>
      cases l with
      | lst xs =>
        show bK (nHK p.1) (bK (lenK xs 0) (R.ok (Fl.nx (s (some (.lst (apK xs [p.1]))) p.2))) .bad) .bad = _
        rw [hs.eq, apK_eq, lenK_eq, nHK_eq, Nat.zero_add]
        show _ = (match isH p.1 || !(lenOk xs.length) with | true => R.bad | false => _)
        cases isH p.1 <;> cases lenOk xs.length <;> rfl
      | _ => rfl
def len2 (xs ys : List D) : Bool := lenOk (xs.length + ys.length)
def len2K (xs ys : List D) : Bool := List.rec (motive := fun _ => Nat → Bool) (fun n => lenK ys n) (fun _ _ ih n => ih (Nat.succ n)) xs 0
theorem len2K_eq (xs ys : List D) : len2K xs ys = lenOk (xs.length + ys.length) := by
  have : ∀ (xs : List D) (n : Nat), (List.rec (motive := fun _ => Nat → Bool) (fun n => lenK ys n) (fun _ _ ih n => ih (Nat.succ n)) xs n : Bool) = lenOk (n + (xs.length + ys.length)) := by
    intro xs
    induction xs with
    | nil => intro n; show lenK ys n = _; rw [lenK_eq, List.length_nil, Nat.zero_add]
    | cons x r ih =>
      intro n
      show (List.rec (motive := fun _ => Nat → Bool) (fun n => lenK ys n) (fun _ _ ih n => ih (Nat.succ n)) r (n + 1) : Bool) = _
      rw [ih, List.length_cons]
      congr 1
      omega
  have h := this xs 0
  rw [Nat.zero_add] at h
  exact h
def sExtK (g : GS) (s : SS) (m : ME) : MS := fun st => opK (g st) fun _ => bindK (m st) fun p => opK (g p.2) fun l => lsK l fun xs => lsK p.1 fun ys => bK (len2K xs ys) (.ok (.nx (s (some (.lst (apK xs ys))) p.2))) .bad
theorem q_extK (hg : GI i g) (hs : SI i s) (m : ME) : sExtK g s m = sExt i m := by
  funext st
  dsimp only [sExtK, sExt]
  rw [hg.eq]
  cases getS st i with
  | none => rfl
  | some l0 =>
    show bindK (m st) _ = R.bind (m st) _
    rw [bindK_eq]
    congr 1
    funext p
    obtain ⟨d, sp⟩ := p
    rw [hg.eq]
    show opK (getS sp i) _ = (match getS sp i with | some (.lst xs) => (match d with | .lst ys => _ | _ => _) | _ => _)
    cases getS sp i with
    | none => rfl
    | some l =>
      cases l with
      | lst xs =>
        cases d with
        | lst ys =>
          show bK (len2K xs ys) _ _ = (match lenOk (xs.length + ys.length) with | true => _ | false => _)
          rw [len2K_eq, hs.eq, apK_eq]
          cases lenOk (xs.length + ys.length) <;> rfl
        | _ => rfl
      | _ => rfl
def sExtP (g : GS) (s : SS) (e : PX) : MS := fun st => opK (g st) fun l => opK (e st) fun d => lsK l fun xs => lsK d fun ys => bK (len2K xs ys) (.ok (.nx (s (some (.lst (apK xs ys))) st))) .bad
theorem q_extP (hg : GI i g) (hs : SI i s) (e : PX) : sExtP g s e = sExt i (liE e) := by
  rw [← q_extK hg hs]
  funext st
  dsimp only [sExtP, sExtK, liE]
  cases hl : g st with
  | none => rfl
  | some l =>
    show opK (e st) _ = bindK (opK (e st) _) _
    rw [bindK_eq, opK_bd]
    congr 1
    funext d
    show _ = opK (g st) _
    rw [hl]
    rfl
def sDrpK (m : ME) : MS := fun st => bindK (m st) fun x => .ok (.nx x.2)
theorem q_drp (m : ME) : sDrpK m = sDrp m := by
  funext st
  unfold sDrpK sDrp
  rw [bindK_eq]
/-! the last one -/
def lastK (xs : List D) : Option D := List.rec (motive := fun _ => Option D) none (fun x r ih => List.rec (motive := fun _ => Option D) (some x) (fun _ _ _ => ih) r) xs
def dropK (xs : List D) : List D := List.rec (motive := fun _ => List D) [] (fun x r ih => List.rec (motive := fun _ => List D) [] (fun _ _ _ => x :: ih) r) xs
theorem lastK_eq : ∀ xs : List D, lastK xs = xs[xs.length - 1]?
  | [] => rfl
  | [x] => rfl
  | x :: y :: r => by
    show lastK (y :: r) = _
    rw [lastK_eq (y :: r)]
    simp
theorem dropK_eq : ∀ xs : List D, dropK xs = xs.dropLast
  | [] => rfl
  | [x] => rfl
  | x :: y :: r => congrArg (x :: ·) (dropK_eq (y :: r))
def leK (d : D) (f : List D → R (D × AS)) : R (D × AS) := D.casesOn d .bad (fun _ => .bad) (fun _ => .bad) (fun _ => .bad) (fun _ => .bad) f .bad .bad
def mPopK (g : GS) (s : SS) : ME := fun st => opK (g st) fun l => leK l fun xs => opK (lastK xs) fun d => .ok (d, s (some (.lst (dropK xs))) st)
theorem q_pop (hg : GI i g) (hs : SI i s) : mPopK g s = mPop i := by
  funext st
  unfold mPopK mPop
  rw [hg.eq]
  cases getS st i with
  | none => rfl
  | some l =>
    cases l with
    | lst xs =>
      show opK (lastK xs) _ = (match xs[xs.length - 1]? with | some d => _ | none => _)
      rw [lastK_eq, dropK_eq]
      cases xs[xs.length - 1]? with
      | none => rfl
      | some d =>
        show R.ok (d, s (some (.lst xs.dropLast)) st) = _
        rw [hs.eq]
    | _ => rfl
/-! numbers in place -/
def inK (d : D) (f : Int → R Fl) : R Fl := D.casesOn d .bad (fun _ => .bad) f (fun _ => .bad) (fun _ => .bad) (fun _ => .bad) .bad .bad
def sAugP (f : Int → Int → Int) (g : GS) (s : SS) (e : PX) : MS := fun st => opK (g st) fun d => inK d fun x => opK (e st) fun y => inK y fun z => fcIK (f x z) fun w => .ok (.nx (s (some (.int w)) st))
theorem q_augP (hg : GI i g) (hs : SI i s) (f : Int → Int → Int) (e : PX) : sAugP f g s e = sAug f i (liE e) := by
  funext st
  dsimp only [sAugP, sAug, liE]
  rw [hg.eq]
  cases getS st i with
  | none => rfl
  | some d =>
    cases d with
    | int x =>
      show opK (e st) _ = R.bind (opK (e st) _) _
      rw [opK_bd]
      congr 1
      funext y
      cases y with
      | int z =>
        show fcIK (f x z) (fun w => R.ok (Fl.nx (s (some (.int w)) st))) = _
        rw [fcIK_eq, hs.eq]
        rfl
      | _ => rfl
    | _ => rfl
end
end
end EV
/-! .. stores -/
namespace EV
open PySem PySem.Spec PyProof.Rows L2
noncomputable section
section
variable {i j k : Nat} {g : GS} {s s2 s3 : SS} {p : Pat} {A : AT}
def ixK (n : Nat) (k : Int) : Option Nat := Int.rec (motive := fun _ => Option Nat) (fun m => bK (Nat.ble (Nat.succ m) n) (some m) none) (fun m => bK (Nat.ble (Nat.succ m) n) (some (n - Nat.succ m)) none) k
theorem ixK_eq (n : Nat) (k : Int) : ixK n k = ixN n k := by
  cases k with
  | ofNat m =>
    show bK (Nat.ble (m + 1) n) (some m) none = ixN n (m : Int)
    unfold ixN
    rw [if_pos (Int.natCast_nonneg m)]
    cases h : Nat.ble (m + 1) n with
    | true =>
      have := Nat.le_of_ble_eq_true h
      rw [if_pos (by omega)]
      simp [bK_t]
    | false =>
      have : ¬ (m + 1 ≤ n) := fun z => by rw [Nat.ble_eq_true_of_le z] at h; cases h
      rw [if_neg (by omega)]
      rfl
  | negSucc m =>
    show bK (Nat.ble (m + 1) n) (some (n - (m + 1))) none = ixN n (Int.negSucc m)
    unfold ixN
    rw [if_neg (by omega)]
    cases h : Nat.ble (m + 1) n with
    | true =>
      have := Nat.le_of_ble_eq_true h
      rw [if_pos (by omega)]
      show some _ = some _
      congr 1
      omega
    | false =>
      have : ¬ (m + 1 ≤ n) := fun z => by rw [Nat.ble_eq_true_of_le z] at h; cases h
      rw [if_neg (by omega)]
      rfl
def cntK (xs : List D) : Nat → Nat := List.rec (motive := fun _ => Nat → Nat) (fun n => n) (fun _ _ ih n => fcNK (Nat.succ n) ih) xs
theorem cntK_eq : ∀ (xs : List D) (n : Nat), cntK xs n = n + xs.length
  | [], _ => rfl
  | x :: r, n => by
    show fcNK (n + 1) (cntK r) = _
    rw [fcNK_eq, cntK_eq r, List.length_cons]
    omega
def nthK (xs : List D) : Nat → Option D := List.rec (motive := fun _ => Nat → Option D) (fun _ => none) (fun x _ ih n => Nat.rec (motive := fun _ => Option D) (some x) (fun m _ => ih m) n) xs
theorem nthK_eq : ∀ (xs : List D) (n : Nat), nthK xs n = xs[n]?
  | [], _ => by simp; rfl
  | x :: r, 0 => rfl
  | x :: r, n + 1 => by
    show nthK r n = _
    rw [nthK_eq r]
    simp
/-- with one place set, handed on with its spine written out -/
def putK {α : Type} (v : D) (xs : List D) : Nat → (List D → α) → α := List.rec (motive := fun _ => Nat → (List D → α) → α) (fun _ k => k []) (fun x r ih n k => Nat.rec (motive := fun _ => α) (k (v :: r)) (fun m _ => ih m fun r => k (x :: r)) n) xs
theorem putK_eq {α : Type} (v : D) : ∀ (xs : List D) (n : Nat) (k : List D → α), putK v xs n k = k (xs.set n v)
  | [], _, _ => rfl
  | x :: r, 0, _ => rfl
  | x :: r, n + 1, k => by
    show putK v r n (fun r => k (x :: r)) = _
    rw [putK_eq v r]
    rfl
def apC {α : Type} (xs ys : List D) : (List D → α) → α := List.rec (motive := fun _ => (List D → α) → α) (fun k => k ys) (fun x _ ih k => ih fun r => k (x :: r)) xs
theorem apC_eq {α : Type} : ∀ (xs ys : List D) (k : List D → α), apC xs ys k = k (xs ++ ys)
  | [], _, _ => rfl
  | x :: r, ys, k => by
    show apC r ys (fun r => k (x :: r)) = _
    rw [apC_eq r]
    rfl
def sAugSP (f : Int → Int → Int) (g : GS) (s : SS) (ek ev : PX) : MS := fun st => opK (g st) fun l => opK (ek st) fun y => lsK l fun ds => inK y fun k => opK (ixK (cntK ds 0) k) fun j => opK (nthK ds j) fun d => inK d fun x => opK (ev st) fun z => inK z fun w =>
  fcIK (f x w) fun v => putK (.int v) ds j fun es => .ok (.nx (s (some (.lst es)) st))
theorem q_augSP (hg : GI i g) (hs : SI i s) (f : Int → Int → Int) (ek ev : PX) : sAugSP f g s ek ev = sAugS f i (liE ek) (liE ev) := by
  funext st
  dsimp only [sAugSP, sAugS, liE]
  rw [hg.eq]
  cases hl : getS st i with
  | none => rfl
  | some l =>
    show opK (ek st) _ = R.bind (opK (ek st) _) _
    rw [opK_bd]
    congr 1
    funext y
    show _ = (match getS st i with | some (.lst ds) => (match y with | .int k => _ | _ => _) | _ => R.bad)
    rw [hl]
    cases l with
    | lst ds =>
      cases y with
      | int k =>
        show opK (ixK (cntK ds 0) k) _ = (match atI ds k with | some (.int x) => _ | _ => R.bad)
        rw [ixK_eq, cntK_eq, Nat.zero_add]
        unfold atI
        cases hi : ixN ds.length k with
        | none => rfl
        | some j =>
          show opK (nthK ds j) _ = (match ds[j]? with | some (.int x) => _ | _ => R.bad)
          rw [nthK_eq]
          cases ds[j]? with
          | none => rfl
          | some d =>
            cases d with
            | int x =>
              show opK (ev st) _ = R.bind (opK (ev st) _) _
              rw [opK_bd]
              congr 1
              funext z
              show _ = (match getS st i with | some (.lst es) => (match z with | .int w => _ | _ => _) | _ => R.bad)
              rw [hl]
              cases z with
              | int w =>
                show fcIK (f x w) (fun v => putK (D.int v) ds j fun es => R.ok (Fl.nx (s (some (D.lst es)) st))) = (match ixN ds.length k with | some j => R.ok (Fl.nx (st.set i (some (.lst (ds.set j (.int (f x w))))))) | none => _)
                rw [fcIK_eq, putK_eq, hs.eq, hi]
              | _ => rfl
            | _ => rfl
      | _ => rfl
    | _ => rfl
/-- list[k] = v -/
def sSetP (g : GS) (s : SS) (ek ev : PX) : MS := fun st => opK (ev st) fun x => opK (g st) fun l => opK (ek st) fun y => lsK l fun ds => inK y fun k => opK (ixK (cntK ds 0) k) fun j => bK (nHK x) (putK x ds j fun es => .ok (.nx (s (some (.lst es)) st))) .bad
theorem q_setP (hg : GI i g) (hs : SI i s) (ek ev : PX) : sSetP g s ek ev = sSet i (liE ek) (liE ev) := by
  funext st
  dsimp only [sSetP, sSet, liE]
  rw [opK_bd]
  congr 1
  funext x
  show opK (g st) _ = (match getS st i with | none => R.bad | some _ => _)
  rw [hg.eq]
  cases hl : getS st i with
  | none => rfl
  | some l =>
    show opK (ek st) _ = R.bind (opK (ek st) _) _
    rw [opK_bd]
    congr 1
    funext y
    show _ = (match getS st i with | some (.lst ds) => (match y with | .int k => _ | _ => _) | _ => R.bad)
    rw [hl]
    cases l with
    | lst ds =>
      cases y with
      | int k =>
        show opK (ixK (cntK ds 0) k) _ = (match ixN ds.length k with | some j => _ | none => _)
        rw [ixK_eq, cntK_eq, Nat.zero_add]
        cases ixN ds.length k with
        | none => rfl
        | some j =>
          show bK (nHK x) (putK x ds j _) _ = (match isH x with | true => _ | false => _)
          rw [putK_eq, nHK_eq, hs.eq]
          cases isH x <;> rfl
      | _ => rfl
    | _ => rfl
def sPar2K (s s2 : SS) (a b : ME) : MS := fun st => bindK (a st) fun x => bindK (b x.2) fun y => .ok (.nx (s2 (some y.1) (s (some x.1) y.2)))
theorem q_parO (h : SI i s) (h2 : SI j s2) (a b : ME) : sPar2K s s2 a b = sParO i j a b := by
  funext st
  unfold sPar2K sParO
  rw [bindK_eq]
  congr 1
  funext x
  rw [bindK_eq]
  congr 1
  funext y
  rw [h.eq, h2.eq]
theorem q_parSO (h : SI i s) (h2 : SI j s2) (a b : ME) : sPar2K s s2 a b = sParSO i j a b := by
  funext st
  unfold sPar2K sParSO
  rw [bindK_eq]
  congr 1
  funext x
  rw [bindK_eq]
  congr 1
  funext y
  rw [h.eq, h2.eq]
theorem q_par2 (h : SI i s) (h2 : SI j s2) (a b : ME) : sPar2K s s2 a b = sPar [i, j] (lCons a (lCons b lNil)) := by
  funext st
  unfold sPar2K sPar lCons lNil
  rw [bindK_eq, bd_assoc]
  congr 1
  funext x
  rw [bindK_eq, bd_assoc, bd_assoc]
  congr 1
  funext y
  rw [h.eq, h2.eq]
  rfl
def sPar3K (s s2 s3 : SS) (a b c : ME) : MS := fun st => bindK (a st) fun x => bindK (b x.2) fun y => bindK (c y.2) fun z => .ok (.nx (s3 (some z.1) (s2 (some y.1) (s (some x.1) z.2))))
theorem q_parOOS (h : SI i s) (h2 : SI j s2) (h3 : SI k s3) (a b c : ME) : sPar3K s s2 s3 a b c = sParOOS i j k a b c := by
  funext st
  unfold sPar3K sParOOS
  rw [bindK_eq]
  congr 1
  funext x
  rw [bindK_eq]
  congr 1
  funext y
  rw [bindK_eq]
  congr 1
  funext z
  rw [h.eq, h2.eq, h3.eq]
theorem q_par3 (h : SI i s) (h2 : SI j s2) (h3 : SI k s3) (a b c : ME) : sPar3K s s2 s3 a b c = sPar [i, j, k] (lCons a (lCons b (lCons c lNil))) := by
  funext st
  unfold sPar3K sPar lCons lNil
  rw [bindK_eq, bd_assoc]
  congr 1
  funext x
  rw [bindK_eq, bd_assoc, bd_assoc]
  congr 1
  funext y
  rw [bindK_eq, bd_assoc, bd_assoc]
  congr 1
  funext z
  rw [h.eq, h2.eq, h3.eq]
  rfl
/-! a list's end with its spine written out -/
def sAppC (g : GS) (s : SS) (e : PX) : MS := fun st => opK (g st) fun l => opK (e st) fun x => lsK l fun xs => bK (nHK x) (bK (lenK xs 0) (apC xs [x] fun ys => .ok (.nx (s (some (.lst ys)) st))) .bad) .bad
theorem q_appC (hg : GI i g) (hs : SI i s) (e : PX) : sAppC g s e = sApp i (liE e) := by
  rw [← q_appP hg hs]
  funext st
  unfold sAppC sAppP
  congr 1
  funext l
  congr 1
  funext x
  congr 1
  funext xs
  rw [apC_eq, apK_eq]
def sAppKC (g : GS) (s : SS) (m : ME) : MS := fun st => opK (g st) fun _ => bindK (m st) fun p => opK (g p.2) fun l => lsK l fun xs => bK (nHK p.1) (bK (lenK xs 0) (apC xs [p.1] fun ys => .ok (.nx (s (some (.lst ys)) p.2))) .bad) .bad
theorem q_appKC (hg : GI i g) (hs : SI i s) (m : ME) : sAppKC g s m = sApp i m := by
  rw [← q_appK hg hs]
  funext st
  unfold sAppKC sAppK
  congr 1
  funext _
  congr 1
  funext p
  congr 1
  funext l
  congr 1
  funext xs
  rw [apC_eq, apK_eq]
def sExtKC (g : GS) (s : SS) (m : ME) : MS := fun st => opK (g st) fun _ => bindK (m st) fun p => opK (g p.2) fun l => lsK l fun xs => lsK p.1 fun ys => bK (len2K xs ys) (apC xs ys fun zs => .ok (.nx (s (some (.lst zs)) p.2))) .bad
theorem q_extKC (hg : GI i g) (hs : SI i s) (m : ME) : sExtKC g s m = sExt i m := by
  rw [← q_extK hg hs]
  funext st
  unfold sExtKC sExtK
  congr 1
  funext _
  congr 1
  funext p
  congr 1
  funext l
  congr 1
  funext xs
  congr 1
  funext ys
  rw [apC_eq, apK_eq]
theorem q_fgt {ks : List Nat} {m n : MS} (h : m = n) : sFgt ks m = sFgt ks n := by rw [h]
end
/-! the slots' words -/
def g0 : GS := hdK
def s0 : SS := s0K
theorem G0 : GI 0 g0 := GI.zero
theorem S0 : SI 0 s0 := SI.zero
def g1 : GS := tlK g0
def s1 : SS := stK s0
theorem G1 : GI 1 g1 := G0.succ
theorem S1 : SI 1 s1 := S0.succ
def g2 : GS := tlK g1
def s2 : SS := stK s1
theorem G2 : GI 2 g2 := G1.succ
theorem S2 : SI 2 s2 := S1.succ
def g3 : GS := tlK g2
def s3 : SS := stK s2
theorem G3 : GI 3 g3 := G2.succ
theorem S3 : SI 3 s3 := S2.succ
def g4 : GS := tlK g3
def s4 : SS := stK s3
theorem G4 : GI 4 g4 := G3.succ
theorem S4 : SI 4 s4 := S3.succ
def g5 : GS := tlK g4
def s5 : SS := stK s4
theorem G5 : GI 5 g5 := G4.succ
theorem S5 : SI 5 s5 := S4.succ
def g6 : GS := tlK g5
def s6 : SS := stK s5
theorem G6 : GI 6 g6 := G5.succ
theorem S6 : SI 6 s6 := S5.succ
def g7 : GS := tlK g6
def s7 : SS := stK s6
theorem G7 : GI 7 g7 := G6.succ
theorem S7 : SI 7 s7 := S6.succ
def g8 : GS := tlK g7
def s8 : SS := stK s7
theorem G8 : GI 8 g8 := G7.succ
theorem S8 : SI 8 s8 := S7.succ
def g9 : GS := tlK g8
def s9 : SS := stK s8
theorem G9 : GI 9 g9 := G8.succ
theorem S9 : SI 9 s9 := S8.succ
def g10 : GS := tlK g9
def s10 : SS := stK s9
theorem G10 : GI 10 g10 := G9.succ
theorem S10 : SI 10 s10 := S9.succ
def g11 : GS := tlK g10
def s11 : SS := stK s10
theorem G11 : GI 11 g11 := G10.succ
theorem S11 : SI 11 s11 := S10.succ
def g12 : GS := tlK g11
def s12 : SS := stK s11
theorem G12 : GI 12 g12 := G11.succ
theorem S12 : SI 12 s12 := S11.succ
def g13 : GS := tlK g12
def s13 : SS := stK s12
theorem G13 : GI 13 g13 := G12.succ
theorem S13 : SI 13 s13 := S12.succ
def g14 : GS := tlK g13
def s14 : SS := stK s13
theorem G14 : GI 14 g14 := G13.succ
theorem S14 : SI 14 s14 := S13.succ
def g15 : GS := tlK g14
def s15 : SS := stK s14
theorem G15 : GI 15 g15 := G14.succ
theorem S15 : SI 15 s15 := S14.succ
def g16 : GS := tlK g15
def s16 : SS := stK s15
theorem G16 : GI 16 g16 := G15.succ
theorem S16 : SI 16 s16 := S15.succ
def g17 : GS := tlK g16
def s17 : SS := stK s16
theorem G17 : GI 17 g17 := G16.succ
theorem S17 : SI 17 s17 := S16.succ
def g18 : GS := tlK g17
def s18 : SS := stK s17
theorem G18 : GI 18 g18 := G17.succ
theorem S18 : SI 18 s18 := S17.succ
def g19 : GS := tlK g18
def s19 : SS := stK s18
theorem G19 : GI 19 g19 := G18.succ
theorem S19 : SI 19 s19 := S18.succ
def g20 : GS := tlK g19
def s20 : SS := stK s19
theorem G20 : GI 20 g20 := G19.succ
theorem S20 : SI 20 s20 := S19.succ
def g21 : GS := tlK g20
def s21 : SS := stK s20
theorem G21 : GI 21 g21 := G20.succ
theorem S21 : SI 21 s21 := S20.succ
def g22 : GS := tlK g21
def s22 : SS := stK s21
theorem G22 : GI 22 g22 := G21.succ
theorem S22 : SI 22 s22 := S21.succ
def g23 : GS := tlK g22
def s23 : SS := stK s22
theorem G23 : GI 23 g23 := G22.succ
theorem S23 : SI 23 s23 := S22.succ
def g24 : GS := tlK g23
def s24 : SS := stK s23
theorem G24 : GI 24 g24 := G23.succ
theorem S24 : SI 24 s24 := S23.succ
def g25 : GS := tlK g24
def s25 : SS := stK s24
theorem G25 : GI 25 g25 := G24.succ
theorem S25 : SI 25 s25 := S24.succ
def g26 : GS := tlK g25
def s26 : SS := stK s25
theorem G26 : GI 26 g26 := G25.succ
theorem S26 : SI 26 s26 := S25.succ
def g27 : GS := tlK g26
def s27 : SS := stK s26
theorem G27 : GI 27 g27 := G26.succ
theorem S27 : SI 27 s27 := S26.succ
def g28 : GS := tlK g27
def s28 : SS := stK s27
theorem G28 : GI 28 g28 := G27.succ
theorem S28 : SI 28 s28 := S27.succ
def g29 : GS := tlK g28
def s29 : SS := stK s28
theorem G29 : GI 29 g29 := G28.succ
theorem S29 : SI 29 s29 := S28.succ
def g30 : GS := tlK g29
def s30 : SS := stK s29
theorem G30 : GI 30 g30 := G29.succ
theorem S30 : SI 30 s30 := S29.succ
def g31 : GS := tlK g30
def s31 : SS := stK s30
theorem G31 : GI 31 g31 := G30.succ
theorem S31 : SI 31 s31 := S30.succ
def g32 : GS := tlK g31
def s32 : SS := stK s31
theorem G32 : GI 32 g32 := G31.succ
theorem S32 : SI 32 s32 := S31.succ
def g33 : GS := tlK g32
def s33 : SS := stK s32
theorem G33 : GI 33 g33 := G32.succ
theorem S33 : SI 33 s33 := S32.succ
def g34 : GS := tlK g33
def s34 : SS := stK s33
theorem G34 : GI 34 g34 := G33.succ
theorem S34 : SI 34 s34 := S33.succ
def g35 : GS := tlK g34
def s35 : SS := stK s34
theorem G35 : GI 35 g35 := G34.succ
theorem S35 : SI 35 s35 := S34.succ
def g36 : GS := tlK g35
def s36 : SS := stK s35
theorem G36 : GI 36 g36 := G35.succ
theorem S36 : SI 36 s36 := S35.succ
def g37 : GS := tlK g36
def s37 : SS := stK s36
theorem G37 : GI 37 g37 := G36.succ
theorem S37 : SI 37 s37 := S36.succ
def g38 : GS := tlK g37
def s38 : SS := stK s37
theorem G38 : GI 38 g38 := G37.succ
theorem S38 : SI 38 s38 := S37.succ
def g39 : GS := tlK g38
def s39 : SS := stK s38
theorem G39 : GI 39 g39 := G38.succ
theorem S39 : SI 39 s39 := S38.succ
end
end EV
/-! .. a def's run -/
namespace EV
open PySem PySem.Spec PyProof.Rows L2
noncomputable section
def repK (n : Nat) : AS := Nat.rec (motive := fun _ => AS) [] (fun _ ih => none :: ih) n
def initK (ds : List D) : Nat → AS := List.rec (motive := fun _ => Nat → AS) (fun n => repK n) (fun x _ ih n => some x :: ih (n - 1)) ds
theorem repK_eq : ∀ n, repK n = List.replicate n none
  | 0 => rfl
  | n + 1 => congrArg (none :: ·) (repK_eq n)
theorem initK_eq : ∀ (ds : List D) (n : Nat), initK ds n = init n ds
  | [], n => by
    show repK n = _
    rw [repK_eq]
    rfl
  | x :: r, n => by
    show some x :: initK r (n - 1) = _
    rw [initK_eq r]
    unfold init
    rw [List.map_cons, List.length_cons, List.cons_append]
    congr 3
    omega
def retK (ro : Bool) (f : Fl) : R D := Fl.casesOn f (fun _ => bK ro .bad (.ok .non)) (fun d => .ok d) (fun _ => .bad) (fun _ => .bad)
def runK (ro : Bool) (N : Nat) (m : MS) (ds : List D) : R D := bindK (m (initK ds N)) (retK ro)
theorem runK_eq (ro : Bool) (N : Nat) (m : MS) (ds : List D) : runK ro N m ds = (m (init N ds)).bind (retOf ro) := by
  unfold runK
  rw [bindK_eq, initK_eq]
  congr 1
  funext f
  cases f with
  | nx st => cases ro <;> rfl
  | _ => rfl
end
end EV
/-! .. operators -/
namespace EV
open PySem PySem.Spec PyProof.Rows L2
noncomputable section
/-! ints -/
def iiK {α : Type} (i j : Int) (pp pn np nn : Nat → Nat → α) : α := Int.rec (motive := fun _ => α) (fun m => Int.rec (motive := fun _ => α) (fun n => pp m n) (fun n => pn m n) j) (fun m => Int.rec (motive := fun _ => α) (fun n => np m n) (fun n => nn m n) j) i
def ltIK (i j : Int) : Bool := iiK i j (fun m n => Nat.ble (Nat.succ m) n) (fun _ _ => false) (fun _ _ => true) (fun m n => Nat.ble (Nat.succ n) m)
def eqIK (i j : Int) : Bool := iiK i j (fun m n => Nat.beq m n) (fun _ _ => false) (fun _ _ => false) (fun m n => Nat.beq m n)
theorem ltIK_eq (i j : Int) : ltIK i j = decide (i < j) := by
  cases i with
  | ofNat m => cases j with
    | ofNat n =>
      show Nat.ble (m + 1) n = _
      by_cases h : m + 1 ≤ n
      · rw [Nat.ble_eq_true_of_le h, decide_eq_true (by simp only [Int.ofNat_eq_natCast]; omega)]
      · rw [decide_eq_false (by simp only [Int.ofNat_eq_natCast]; omega)]
        cases e : Nat.ble (m + 1) n with
        | true => exact absurd (Nat.le_of_ble_eq_true e) h
        | false => rfl
    | negSucc n => exact (decide_eq_false (by simp only [Int.ofNat_eq_natCast]; omega)).symm
  | negSucc m => cases j with
    | ofNat n => exact (decide_eq_true (by simp only [Int.ofNat_eq_natCast]; omega)).symm
    | negSucc n =>
      show Nat.ble (n + 1) m = _
      by_cases h : n + 1 ≤ m
      · rw [Nat.ble_eq_true_of_le h, decide_eq_true (by omega)]
      · rw [decide_eq_false (by omega)]
        cases e : Nat.ble (n + 1) m with
        | true => exact absurd (Nat.le_of_ble_eq_true e) h
        | false => rfl
theorem eqIK_eq (i j : Int) : eqIK i j = decide (i = j) := by
  have nb : ∀ m n : Nat, Nat.beq m n = decide (m = n) := fun m n => by
    cases e : Nat.beq m n with
    | true => exact (decide_eq_true (Nat.eq_of_beq_eq_true e)).symm
    | false => exact (decide_eq_false fun z => by rw [z, Nat.beq_refl] at e; cases e).symm
  cases i with
  | ofNat m => cases j with
    | ofNat n =>
      show Nat.beq m n = _
      rw [nb]
      exact decide_eq_decide.mpr (by simp only [Int.ofNat_eq_natCast]; omega)
    | negSucc n => rfl
  | negSucc m => cases j with
    | ofNat n => rfl
    | negSucc n =>
      show Nat.beq m n = _
      rw [nb]
      congr 1
      simp
def addIK (i j : Int) : Int := iiK i j (fun m n => .ofNat (m + n)) (fun _ _ => i + j) (fun _ _ => i + j) (fun _ _ => i + j)
theorem addIK_eq (i j : Int) : addIK i j = i + j := by cases i <;> cases j <;> rfl
def subIK (i j : Int) : Int := iiK i j (fun m n => bK (Nat.ble n m) (.ofNat (m - n)) (i - j)) (fun _ _ => i - j) (fun _ _ => i - j) (fun _ _ => i - j)
theorem subIK_eq (i j : Int) : subIK i j = i - j := by
  cases i with
  | ofNat m => cases j with
    | ofNat n =>
      show bK (Nat.ble n m) (Int.ofNat (m - n)) _ = _
      cases e : Nat.ble n m with
      | true =>
        have := Nat.le_of_ble_eq_true e
        show Int.ofNat (m - n) = _
        simp only [Int.ofNat_eq_natCast]
        omega
      | false => rfl
    | negSucc n => rfl
  | negSucc m => cases j <;> rfl
def mulIK (i j : Int) : Int := iiK i j (fun m n => .ofNat (m * n)) (fun _ _ => i * j) (fun _ _ => i * j) (fun _ _ => i * j)
theorem mulIK_eq (i j : Int) : mulIK i j = i * j := by cases i <;> cases j <;> rfl
def modIK (i j : Int) : Int := iiK i j (fun m n => .ofNat (m % n)) (fun _ _ => i.fmod j) (fun _ _ => i.fmod j) (fun _ _ => i.fmod j)
theorem modIK_eq (i j : Int) : modIK i j = i.fmod j := by
  cases i with
  | ofNat m => cases j with
    | ofNat n =>
      show Int.ofNat (m % n) = _
      cases m <;> rfl
    | negSucc n => rfl
  | negSucc m => cases j <;> rfl
def divIK (i j : Int) : Int := iiK i j (fun m n => .ofNat (m / n)) (fun _ _ => i.fdiv j) (fun _ _ => i.fdiv j) (fun _ _ => i.fdiv j)
theorem divIK_eq (i j : Int) : divIK i j = i.fdiv j := by
  cases i with
  | ofNat m => cases j with
    | ofNat n =>
      show Int.ofNat (m / n) = _
      cases m with
      | zero => simp [Int.fdiv]
      | succ m => rfl
    | negSucc n => rfl
  | negSucc m => cases j <;> rfl
/-! two ints -/
def d2K {α : Type} (d e : D) (f : Int → Int → α) (o : α) : α := D.casesOn d o (fun _ => o) (fun i => D.casesOn e o (fun _ => o) (fun j => f i j) (fun _ => o) (fun _ => o) (fun _ => o) o o) (fun _ => o) (fun _ => o) (fun _ => o) o o
theorem d2K_I (d e : D) (f : Int → Int → Option D) : d2K d e f none = oI f d e := by cases d <;> cases e <;> rfl
def oAddK (d e : D) : Option D := d2K d e (fun i j => fcIK (addIK i j) fun k => some (.int k)) (oAddL d e)
theorem oAddK_eq : oAddK = oAddL := by
  funext d e
  unfold oAddK
  cases d with
  | int i => cases e with
    | int j =>
      show fcIK (addIK i j) (fun k => some (D.int k)) = _
      rw [fcIK_eq, addIK_eq]
      rfl
    | _ => rfl
  | _ => cases e <;> rfl
def oSubK (d e : D) : Option D := d2K d e (fun i j => fcIK (subIK i j) fun k => some (.int k)) none
theorem oSubK_eq : oSubK = oSub := by
  funext d e
  unfold oSubK
  rw [d2K_I]
  unfold oSub
  congr 1
  funext i j
  rw [fcIK_eq, subIK_eq]
def oMulC (c : Nat) (d e : D) : Option D := d2K d e (fun i j => iiK i j (fun m n => bK (Nat.ble m c) (fcNK (m * n) fun k => some (.int (.ofNat k))) (oMulT d e)) (fun _ _ => oMulT d e) (fun _ _ => oMulT d e) (fun _ _ => oMulT d e)) (oMulT d e)
theorem d2K_of {α : Type} {d e : D} {f : Int → Int → α} {o : α} (h : ∀ i j, d = .int i → e = .int j → f i j = o) : d2K d e f o = o := by
  cases d with
  | int i => cases e with
    | int j => exact h i j rfl rfl
    | _ => rfl
  | _ => cases e <;> rfl
theorem iiK_of {α : Type} {i j : Int} {f : Nat → Nat → α} {x : α} (h : ∀ m n : Nat, i = .ofNat m → j = .ofNat n → f m n = x) : iiK i j f (fun _ _ => x) (fun _ _ => x) (fun _ _ => x) = x := by
  cases i with
  | ofNat m => cases j with
    | ofNat n => exact h m n rfl rfl
    | negSucc n => rfl
  | negSucc m => cases j <;> rfl
theorem mul_int (i j : Int) (h : small64B i = true) : oMulT (.int i) (.int j) = some (.int (i * j)) := by
  simp only [oMulT, oMul, oI]
  rw [h, Bool.true_or, if_pos rfl]
theorem sm64' {i : Int} (h : i < 2 ^ 64) (h2 : -(2 ^ 64) < i) : small64B i = true := by
  unfold small64B
  rw [decide_eq_true h, decide_eq_true h2]
  rfl
theorem oMulC_eq {c : Nat} (hc : (c : Int) < 2 ^ 64) : oMulC c = oMulT := by
  funext d e
  unfold oMulC
  refine d2K_of fun i j hi hj => iiK_of fun m n em en => ?_
  subst hi
  subst hj
  subst em
  subst en
  rw [fcNK_eq]
  cases h : Nat.ble m c with
  | false => rw [bK_f]
  | true =>
    have := Nat.le_of_ble_eq_true h
    rw [bK_t]
    exact (mul_int (.ofNat m) (.ofNat n) (sm64' (by simp only [Int.ofNat_eq_natCast]; omega) (by simp only [Int.ofNat_eq_natCast]; omega))).symm
def oMulK : D → D → Option D := oMulC 1000000
theorem oMulK_eq : oMulK = oMulT := oMulC_eq (by decide)
def oModK (d e : D) : Option D := d2K d e (fun i j => bK (eqIK j 0) none (fcIK (modIK i j) fun k => some (.int k))) none
theorem oModK_eq : oModK = oMod := by
  funext d e
  unfold oModK
  rw [d2K_I]
  unfold oMod
  congr 1
  funext i j
  rw [fcIK_eq, modIK_eq, eqIK_eq]
  by_cases h : j = 0 <;> simp [h, bK]
def oDivK (d e : D) : Option D := d2K d e (fun i j => bK (divB j) (fcIK (divIK i j) fun k => some (.int k)) none) none
theorem oDivK_eq : oDivK = oDiv := by
  funext d e
  unfold oDivK
  rw [d2K_I]
  unfold oDiv
  congr 1
  funext i j
  rw [fcIK_eq, divIK_eq]
  cases divB j <;> rfl
def oLtK (d e : D) : Option D := d2K d e (fun i j => some (.bl (ltIK i j))) none
def oGtK (d e : D) : Option D := d2K d e (fun i j => some (.bl (ltIK j i))) none
def oLeK (d e : D) : Option D := d2K d e (fun i j => bK (ltIK j i) (some (.bl false)) (some (.bl true))) none
def oGeK (d e : D) : Option D := d2K d e (fun i j => bK (ltIK i j) (some (.bl false)) (some (.bl true))) none
theorem oLtK_eq : oLtK = oCmp (iop .lt) := by
  funext d e
  unfold oLtK oCmp
  rw [d2K_I]
  congr 1
  funext i j
  rw [ltIK_eq]
  rfl
theorem oGtK_eq : oGtK = oCmp (iop .gt) := by
  funext d e
  unfold oGtK oCmp
  rw [d2K_I]
  congr 1
  funext i j
  rw [ltIK_eq]
  rfl
theorem oLeK_eq : oLeK = oCmp (iop .le) := by
  funext d e
  unfold oLeK oCmp
  rw [d2K_I]
  congr 1
  funext i j
  rw [ltIK_eq]
  show _ = some (D.bl (decide (i ≤ j)))
  by_cases h : j < i
  · rw [decide_eq_true h, decide_eq_false (by omega)]; rfl
  · rw [decide_eq_false h, decide_eq_true (by omega)]; rfl
theorem oGeK_eq : oGeK = oCmp (iop .ge) := by
  funext d e
  unfold oGeK oCmp
  rw [d2K_I]
  congr 1
  funext i j
  rw [ltIK_eq]
  show _ = some (D.bl (decide (j ≤ i)))
  by_cases h : i < j
  · rw [decide_eq_true h, decide_eq_false (by omega)]; rfl
  · rw [decide_eq_false h, decide_eq_true (by omega)]; rfl
/-! lists of ints -/
def maxK (xs : List D) : Int → Option D := List.rec (motive := fun _ => Int → Option D) (fun m => some (.int m)) (fun x _ ih m => ooK (dIK x) fun i => bK (ltIK m i) (ih i) (ih m)) xs
def minK (xs : List D) : Int → Option D := List.rec (motive := fun _ => Int → Option D) (fun m => some (.int m)) (fun x _ ih m => ooK (dIK x) fun i => bK (ltIK i m) (ih i) (ih m)) xs
def extK (f : List D → Int → Option D) (d : D) : Option D := D.casesOn d none (fun _ => none) (fun _ => none) (fun _ => none) (fun _ => none) (fun xs => List.rec (motive := fun _ => Option D) none (fun x r _ => ooK (dIK x) fun i => f r i) xs) none none
theorem maxK_eq : ∀ (xs : List D) (m : Int), maxK xs m = (match ints? xs with | some r => some (.int (maxI m r)) | none => none)
  | [], m => rfl
  | x :: r, m => by
    show ooK (dIK x) (fun i => bK (ltIK m i) (maxK r i) (maxK r m)) = _
    cases x with
    | int i =>
      show bK (ltIK m i) (maxK r i) (maxK r m) = _
      rw [maxK_eq r, maxK_eq r, ltIK_eq]
      show _ = (match (match ints? r with | some l => some (i :: l) | none => none) with | some r => some (D.int (maxI m r)) | none => none)
      cases ints? r with
      | none => cases decide (m < i) <;> rfl
      | some l =>
        show _ = some (D.int (maxI (if m < i then i else m) l))
        by_cases h : m < i
        · rw [decide_eq_true h, if_pos h]; rfl
        · rw [decide_eq_false h, if_neg h]; rfl
    | _ => rfl
theorem minK_eq : ∀ (xs : List D) (m : Int), minK xs m = (match ints? xs with | some r => some (.int (minI m r)) | none => none)
  | [], m => rfl
  | x :: r, m => by
    show ooK (dIK x) (fun i => bK (ltIK i m) (minK r i) (minK r m)) = _
    cases x with
    | int i =>
      show bK (ltIK i m) (minK r i) (minK r m) = _
      rw [minK_eq r, minK_eq r, ltIK_eq]
      show _ = (match (match ints? r with | some l => some (i :: l) | none => none) with | some r => some (D.int (minI m r)) | none => none)
      cases ints? r with
      | none => cases decide (i < m) <;> rfl
      | some l =>
        show _ = some (D.int (minI (if i < m then i else m) l))
        by_cases h : i < m
        · rw [decide_eq_true h, if_pos h]; rfl
        · rw [decide_eq_false h, if_neg h]; rfl
    | _ => rfl
def oMaxLK : D → Option D := extK maxK
def oMinLK : D → Option D := extK minK
theorem oMaxLK_eq : oMaxLK = oMaxL := by
  funext d
  cases d with
  | lst xs =>
    cases xs with
    | nil => rfl
    | cons x r =>
      show ooK (dIK x) (fun i => maxK r i) = (match ints? (x :: r) with | some (x :: r) => some (D.int (maxI x r)) | _ => none)
      cases x with
      | int i =>
        show maxK r i = (match (match ints? r with | some l => some (i :: l) | none => none) with | some (x :: r) => some (D.int (maxI x r)) | _ => none)
        rw [maxK_eq]
        cases ints? r <;> rfl
      | _ => rfl
  | _ => rfl
theorem oMinLK_eq : oMinLK = oMinL := by
  funext d
  cases d with
  | lst xs =>
    cases xs with
    | nil => rfl
    | cons x r =>
      show ooK (dIK x) (fun i => minK r i) = (match ints? (x :: r) with | some (x :: r) => some (D.int (minI x r)) | _ => none)
      cases x with
      | int i =>
        show minK r i = (match (match ints? r with | some l => some (i :: l) | none => none) with | some (x :: r) => some (D.int (minI x r)) | _ => none)
        rw [minK_eq]
        cases ints? r <;> rfl
      | _ => rfl
  | _ => rfl
def allBK (xs : List D) : Option Bool := List.rec (motive := fun _ => Option Bool) (some true) (fun x _ ih => ooK (dBK x) fun b => ooK ih fun c => bK b (some c) (some false)) xs
def anyBK (xs : List D) : Option Bool := List.rec (motive := fun _ => Option Bool) (some false) (fun x _ ih => ooK (dBK x) fun b => ooK ih fun c => bK b (some true) (some c)) xs
theorem allBK_eq : ∀ xs : List D, allBK xs = (bls? xs).map fun l => l.all id
  | [] => rfl
  | x :: r => by
    show ooK (dBK x) (fun b => ooK (allBK r) fun c => bK b (some c) (some false)) = _
    rw [allBK_eq r]
    cases x with
    | bl b =>
      show ooK ((bls? r).map _) _ = (match bls? r with | some l => some (b :: l) | none => none).map _
      cases bls? r with
      | none => rfl
      | some l => cases b <;> rfl
    | _ => rfl
theorem anyBK_eq : ∀ xs : List D, anyBK xs = (bls? xs).map fun l => l.any id
  | [] => rfl
  | x :: r => by
    show ooK (dBK x) (fun b => ooK (anyBK r) fun c => bK b (some true) (some c)) = _
    rw [anyBK_eq r]
    cases x with
    | bl b =>
      show ooK ((bls? r).map _) _ = (match bls? r with | some l => some (b :: l) | none => none).map _
      cases bls? r with
      | none => rfl
      | some l => cases b <;> rfl
    | _ => rfl
def oAllK (d : D) : Option D := D.casesOn d none (fun _ => none) (fun _ => none) (fun _ => none) (fun _ => none) (fun xs => ooK (allBK xs) fun b => some (.bl b)) none none
def oAnyK (d : D) : Option D := D.casesOn d none (fun _ => none) (fun _ => none) (fun _ => none) (fun _ => none) (fun xs => ooK (anyBK xs) fun b => some (.bl b)) none none
theorem oAllK_eq : oAllK = oAll := by
  funext d
  cases d with
  | lst xs =>
    show ooK (allBK xs) _ = (bls? xs).map _
    rw [allBK_eq]
    cases bls? xs <;> rfl
  | _ => rfl
theorem oAnyK_eq : oAnyK = oAny := by
  funext d
  cases d with
  | lst xs =>
    show ooK (anyBK xs) _ = (bls? xs).map _
    rw [anyBK_eq]
    cases bls? xs <;> rfl
  | _ => rfl
def sumK (xs : List D) : Option Int := List.rec (motive := fun _ => Option Int) (some 0) (fun x _ ih => ooK (dIK x) fun i => ooK ih fun s => fcIK (addIK i s) some) xs
theorem sumK_eq : ∀ xs : List D, sumK xs = (ints? xs).map sumI
  | [] => rfl
  | x :: r => by
    show ooK (dIK x) (fun i => ooK (sumK r) fun s => fcIK (addIK i s) some) = _
    rw [sumK_eq r]
    cases x with
    | int i =>
      show ooK ((ints? r).map _) _ = (match ints? r with | some l => some (i :: l) | none => none).map _
      cases ints? r with
      | none => rfl
      | some l =>
        show fcIK (addIK i (sumI l)) some = some (i + sumI l)
        rw [fcIK_eq, addIK_eq]
    | _ => rfl
def oSumK (d : D) : Option D := D.casesOn d none (fun _ => none) (fun _ => none) (fun _ => none) (fun xs => ooK (sumK xs) fun b => some (.int b)) (fun xs => ooK (sumK xs) fun b => some (.int b)) none none
theorem oSumK_eq : oSumK = oSum := by
  funext d
  cases d with
  | lst xs =>
    show ooK (sumK xs) _ = (ints? xs).map _
    rw [sumK_eq]
    cases ints? xs <;> rfl
  | tup xs =>
    show ooK (sumK xs) _ = (ints? xs).map _
    rw [sumK_eq]
    cases ints? xs <;> rfl
  | _ => rfl
def oLenK (d : D) : Option D := D.casesOn d none (fun _ => none) (fun _ => none) (fun _ => none) (fun xs => fcNK (cntK xs 0) fun n => some (.int (.ofNat n))) (fun xs => fcNK (cntK xs 0) fun n => some (.int (.ofNat n))) none none
theorem oLenK_eq : oLenK = oLen := by
  funext d
  cases d with
  | lst xs =>
    show fcNK (cntK xs 0) (fun n => some (D.int (.ofNat n))) = _
    rw [fcNK_eq, cntK_eq, Nat.zero_add]
    rfl
  | tup xs =>
    show fcNK (cntK xs 0) (fun n => some (D.int (.ofNat n))) = _
    rw [fcNK_eq, cntK_eq, Nat.zero_add]
    rfl
  | _ => rfl
def ixDK (xs : List D) (i : Int) : Option D := Int.rec (motive := fun _ => Option D) (fun n => nthK xs n) (fun n => fcNK (cntK xs 0) fun l => bK (Nat.ble (Nat.succ n) l) (nthK xs (l - 1 - n)) none) i
theorem ixDK_eq (xs : List D) (i : Int) : ixDK xs i = ixD xs i := by
  cases i with
  | ofNat n => exact nthK_eq xs n
  | negSucc n =>
    show fcNK (cntK xs 0) (fun l => bK (Nat.ble (n + 1) l) (nthK xs (l - 1 - n)) none) = (if n < xs.length then xs[xs.length - 1 - n]? else none)
    rw [fcNK_eq, cntK_eq, Nat.zero_add, nthK_eq]
    by_cases h : n < xs.length
    · rw [Nat.ble_eq_true_of_le h, if_pos h]; rfl
    · rw [if_neg h]
      cases e : Nat.ble (n + 1) xs.length with
      | true => exact absurd (Nat.le_of_ble_eq_true e) h
      | false => rfl
def oIxK (d e : D) : Option D := D.casesOn d none (fun _ => none) (fun _ => none) (fun _ => none) (fun xs => ooK (dIK e) fun i => ixDK xs i) (fun xs => ooK (dIK e) fun i => ixDK xs i) none none
theorem oIxK_eq : oIxK = oIx := by
  funext d e
  cases d with
  | lst xs => cases e with
    | int i => exact ixDK_eq xs i
    | _ => rfl
  | tup xs => cases e with
    | int i => exact ixDK_eq xs i
    | _ => rfl
  | _ => rfl
end
end EV
/-! .. equality, order -/
namespace EV
open PySem PySem.Spec PyProof.Rows L2
noncomputable section
def dcK {α : Type} (d : D) (o : α) (fi : Int → α) (ft fl : List D → α) : α := D.casesOn d o (fun _ => o) fi (fun _ => o) ft fl o o
theorem dcK_of {α : Type} {d : D} {o : α} {fi : Int → α} {ft fl : List D → α} (hi : ∀ i, d = .int i → fi i = o) (ht : ∀ xs, d = .tup xs → ft xs = o) (hl : ∀ xs, d = .lst xs → fl xs = o) : dcK d o fi ft fl = o := by
  cases d with
  | int i => exact hi i rfl
  | tup xs => exact ht xs rfl
  | lst xs => exact hl xs rfl
  | _ => rfl
def allK (f : D → Bool) (xs : List D) : Bool := List.rec (motive := fun _ => Bool) true (fun x _ ih => bK (f x) ih false) xs
theorem allK_eq (f : D → Bool) : ∀ xs : List D, allK f xs = xs.all f
  | [] => rfl
  | x :: r => by
    show bK (f x) (allK f r) false = _
    rw [allK_eq f r, List.all_cons]
    cases f x <;> rfl
def dokK (n : Nat) : D → Bool := Nat.rec (motive := fun _ => D → Bool) (fun _ => false) (fun _ ih d => D.casesOn d true (fun _ => true) (fun _ => true) (fun _ => true) (fun xs => allK ih xs) (fun xs => allK ih xs) false false) n
theorem dokK_eq : ∀ n, dokK n = dok n
  | 0 => rfl
  | n + 1 => by
    funext d
    cases d with
    | tup xs => show allK (dokK n) xs = xs.all (dok n); rw [allK_eq, dokK_eq n]
    | lst xs => show allK (dokK n) xs = xs.all (dok n); rw [allK_eq, dokK_eq n]
    | _ => rfl
def eqsK (f : D → D → Bool) (xs : List D) : List D → Bool := List.rec (motive := fun _ => List D → Bool) (fun ys => List.rec (motive := fun _ => Bool) true (fun _ _ _ => false) ys) (fun x _ ih ys => List.rec (motive := fun _ => Bool) false (fun y r _ => bK (f x y) (ih r) false) ys) xs
theorem eqsK_eq (f : D → D → Bool) : ∀ xs ys : List D, eqsK f xs ys = eqs f xs ys
  | [], [] => rfl
  | [], _ :: _ => rfl
  | _ :: _, [] => rfl
  | x :: xs, y :: ys => by
    show bK (f x y) (eqsK f xs ys) false = (match f x y with | true => eqs f xs ys | false => false)
    rw [eqsK_eq f xs]
    cases f x y <;> rfl
def eqfK (n : Nat) : D → D → Bool := Nat.rec (motive := fun _ => D → D → Bool) (fun _ _ => false)
  (fun n ih a b => dcK a (eqf (Nat.succ n) a b) (fun i => dcK b (eqf (Nat.succ n) a b) (fun j => eqIK i j) (fun _ => false) (fun _ => false)) (fun xs => dcK b false (fun _ => false) (fun ys => eqsK ih xs ys) (fun _ => false)) (fun xs => dcK b false (fun _ => false) (fun _ => false) (fun ys => eqsK ih xs ys))) n
theorem eqfK_eq : ∀ n, eqfK n = eqf n
  | 0 => rfl
  | n + 1 => by
    funext a b
    show dcK a (eqf (n + 1) a b) (fun i => dcK b (eqf (n + 1) a b) (fun j => eqIK i j) (fun _ => false) (fun _ => false)) (fun xs => dcK b false (fun _ => false) (fun ys => eqsK (eqfK n) xs ys) (fun _ => false)) (fun xs => dcK b false (fun _ => false) (fun _ => false) (fun ys => eqsK (eqfK n) xs ys)) = eqf (n + 1) a b
    rw [eqfK_eq n]
    cases a with
    | int i => cases b with
      | int j => exact eqIK_eq i j
      | _ => rfl
    | tup xs => cases b with
      | tup ys => exact eqsK_eq _ xs ys
      | _ => rfl
    | lst xs => cases b with
      | lst ys => exact eqsK_eq _ xs ys
      | _ => rfl
    | _ => rfl
def slowEqK (f : Bool → Bool) (d e : D) : Option D := bK (nHK d) (bK (nHK e) (bK (bK (dokK 60 e) (dokK 60 d) false) (some (.bl (f (eqfK 60 d e)))) none) none) none
theorem slowEqK_eq (f : Bool → Bool) (d e : D) : slowEqK f d e = slowEq f d e := by
  unfold slowEqK slowEq
  rw [nHK_eq, nHK_eq, dokK_eq, eqfK_eq]
  cases isH d <;> cases isH e <;> cases dok 60 e <;> cases dok 60 d <;> rfl
def oEqFK (f : Bool → Bool) (d e : D) : Option D := d2K d e (fun i j => some (.bl (f (eqIK i j)))) (slowEqK f d e)
theorem oEqFK_eq (f : Bool → Bool) : oEqFK f = oEqF f := by
  funext d e
  unfold oEqFK
  rw [slowEqK_eq]
  cases d with
  | int i => cases e with
    | int j =>
      show some (D.bl (f (eqIK i j))) = _
      rw [eqIK_eq]
      rfl
    | _ => rfl
  | _ => cases e <;> rfl
def memK (d : D) (xs : List D) : Bool := List.rec (motive := fun _ => Bool) false (fun x _ ih => bK (eqfK 60 x d) true ih) xs
theorem memK_eq (d : D) : ∀ xs : List D, memK d xs = memf d xs
  | [] => rfl
  | x :: r => by
    show bK (eqfK 60 x d) true (memK d r) = (match eqf 60 x d with | true => true | false => memf d r)
    rw [memK_eq d r, eqfK_eq]
    cases eqf 60 x d <;> rfl
def oInK (f : Bool → Bool) (d e : D) : Option D := dcK e none (fun _ => none) (fun xs => bK (bK (dokK 60 d) (allK (dokK 60) xs) false) (some (.bl (f (memK d xs)))) none) (fun xs => bK (bK (dokK 60 d) (allK (dokK 60) xs) false) (some (.bl (f (memK d xs)))) none)
theorem oInK_eq (f : Bool → Bool) : oInK f = oIn f := by
  funext d e
  cases e with
  | tup xs =>
    show bK (bK (dokK 60 d) (allK (dokK 60) xs) false) (some (D.bl (f (memK d xs)))) none = (if dok 60 d && xs.all (dok 60) then some (.bl (f (memf d xs))) else none)
    rw [dokK_eq, memK_eq, allK_eq]
    cases dok 60 d <;> cases xs.all (dok 60) <;> rfl
  | lst xs =>
    show bK (bK (dokK 60 d) (allK (dokK 60) xs) false) (some (D.bl (f (memK d xs)))) none = (if dok 60 d && xs.all (dok 60) then some (.bl (f (memf d xs))) else none)
    rw [dokK_eq, memK_eq, allK_eq]
    cases dok 60 d <;> cases xs.all (dok 60) <;> rfl
  | _ => rfl
/-! order -/
def insK (gt : D → D → Bool) (d : D) (xs : List D) : List D := List.rec (motive := fun _ => List D) [d] (fun x r ih => bK (gt d x) (x :: ih) (d :: x :: r)) xs
theorem insK_eq (gt : D → D → Bool) (d : D) : ∀ xs : List D, insK gt d xs = insR gt d xs
  | [] => rfl
  | x :: r => by
    show bK (gt d x) (x :: insK gt d r) (d :: x :: r) = (match gt d x with | true => x :: insR gt d r | false => d :: x :: r)
    rw [insK_eq gt d r]
    cases gt d x <;> rfl
def spK {α : Type} (xs : List D) : (List D → α) → α := List.rec (motive := fun _ => (List D → α) → α) (fun k => k []) (fun x _ ih k => ih fun r => k (x :: r)) xs
theorem spK_eq {α : Type} : ∀ (xs : List D) (k : List D → α), spK xs k = k xs
  | [], _ => rfl
  | x :: r, k => spK_eq r fun r => k (x :: r)
def sortK {α : Type} (gt : D → D → Bool) (xs : List D) : (List D → α) → α := List.rec (motive := fun _ => (List D → α) → α) (fun k => k []) (fun x _ ih k => ih fun l => spK (insK gt x l) k) xs
theorem sortK_eq {α : Type} (gt : D → D → Bool) : ∀ (xs : List D) (k : List D → α), sortK gt xs k = k (sortR gt xs)
  | [], _ => rfl
  | x :: r, k => by
    show sortK gt r (fun l => spK (insK gt x l) k) = _
    rw [sortK_eq gt r, spK_eq, insK_eq]
    rfl
def ltsK (e l : D → D → Bool) (xs : List D) : List D → Bool := List.rec (motive := fun _ => List D → Bool) (fun ys => List.rec (motive := fun _ => Bool) false (fun _ _ _ => true) ys) (fun x _ ih ys => List.rec (motive := fun _ => Bool) false (fun y r _ => bK (e x y) (ih r) (l x y)) ys) xs
theorem ltsK_eq (e l : D → D → Bool) : ∀ xs ys : List D, ltsK e l xs ys = lts e l xs ys
  | [], [] => rfl
  | [], _ :: _ => rfl
  | _ :: _, [] => rfl
  | x :: xs, y :: ys => by
    show bK (e x y) (ltsK e l xs ys) (l x y) = (match e x y with | true => lts e l xs ys | false => l x y)
    rw [ltsK_eq e l xs]
    cases e x y <;> rfl
def ltfK (n : Nat) : D → D → Bool := Nat.rec (motive := fun _ => D → D → Bool) (fun _ _ => false)
  (fun n ih a b => dcK a (ltf (Nat.succ n) a b) (fun i => dcK b false (fun j => ltIK i j) (fun _ => false) (fun _ => false)) (fun xs => dcK b false (fun _ => false) (fun ys => ltsK (eqfK n) ih xs ys) (fun _ => false)) (fun xs => dcK b false (fun _ => false) (fun _ => false) (fun ys => ltsK (eqfK n) ih xs ys))) n
theorem ltfK_eq : ∀ n, ltfK n = ltf n
  | 0 => rfl
  | n + 1 => by
    funext a b
    show dcK a (ltf (n + 1) a b) (fun i => dcK b false (fun j => ltIK i j) (fun _ => false) (fun _ => false)) (fun xs => dcK b false (fun _ => false) (fun ys => ltsK (eqfK n) (ltfK n) xs ys) (fun _ => false)) (fun xs => dcK b false (fun _ => false) (fun _ => false) (fun ys => ltsK (eqfK n) (ltfK n) xs ys)) = ltf (n + 1) a b
    rw [ltfK_eq n, eqfK_eq]
    cases a with
    | int i => cases b with
      | int j => exact ltIK_eq i j
      | _ => rfl
    | tup xs => cases b with
      | tup ys => exact ltsK_eq _ _ xs ys
      | _ => rfl
    | lst xs => cases b with
      | lst ys => exact ltsK_eq _ _ xs ys
      | _ => rfl
    | _ => rfl
/-- lists of ints, lists of tuples of ints that are not empty and of one length: the usual ones; else by the slow words -/
def isIK (d : D) : Bool := dcK d false (fun _ => true) (fun _ => false) (fun _ => false)
theorem isIK_eq (d : D) : isIK d = isI d := by cases d <;> rfl
def sortOpK (xs : List D) : Option D := bK (allK isIK xs) (sortK (fun a b => ltfK 60 b a) xs fun l => some (.lst l)) (bK (homog 60 xs && (xs.all fun d => match d with | .tup [] => false | _ => true)) (sortK (fun a b => ltfK 60 b a) xs fun l => some (.lst l)) none)
theorem sortOpK_eq (xs : List D) : sortOpK xs = sortOp xs := by
  unfold sortOpK sortOp
  rw [sortK_eq, allK_eq, ltfK_eq]
  have e : (isIK : D → Bool) = isI := funext isIK_eq
  rw [e]
  cases h : xs.all isI with
  | false =>
    rw [bK_f]
    cases (homog 60 xs && (xs.all fun d => match d with | .tup [] => false | _ => true)) <;> rfl
  | true =>
    rw [bK_t]
    have h1 : homog 60 xs = true := by
      cases xs with
      | nil => rfl
      | cons x r =>
        have hx := List.all_eq_true.mp h x (by simp)
        cases x with
        | int i => exact h
        | _ => cases hx
    split
    · rfl
    · rename_i h2
      rw [h1, Bool.true_and, List.all_eq_false] at h2
      obtain ⟨x, hx, hn⟩ := h2
      have := List.all_eq_true.mp h x hx
      cases x with
      | int i => exact absurd rfl hn
      | _ => cases this
def oSortK (d : D) : Option D := dcK d none (fun _ => none) sortOpK sortOpK
theorem oSortK_eq : oSortK = oSort := by
  funext d
  cases d with
  | tup xs => exact sortOpK_eq xs
  | lst xs => exact sortOpK_eq xs
  | _ => rfl
/-! list * n of one place -/
def repDK (x : D) (n : Nat) : List D := Nat.rec (motive := fun _ => List D) [] (fun _ ih => x :: ih) n
theorem repDK_eq (x : D) : ∀ n, repDK x n = (List.replicate n [x]).flatten
  | 0 => rfl
  | n + 1 => by
    show x :: repDK x n = _
    rw [repDK_eq x n]
    rfl
def intK {α : Type} (d : D) (o : α) (f : Nat → α) : α := D.casesOn d o (fun _ => o) (fun k => Int.rec (motive := fun _ => α) f (fun _ => o) k) (fun _ => o) (fun _ => o) (fun _ => o) o o
theorem intK_of {α : Type} {d : D} {o : α} {f : Nat → α} (h : ∀ m, d = .int (.ofNat m) → f m = o) : intK d o f = o := by
  cases d with
  | int k => cases k with
    | ofNat m => exact h m rfl
    | negSucc m => rfl
  | _ => rfl
def oneK {α : Type} (d : D) (o : α) (f : D → α) : α := D.casesOn d o (fun _ => o) (fun _ => o) (fun _ => o) (fun _ => o) (fun xs => List.rec (motive := fun _ => α) o (fun x r _ => List.rec (motive := fun _ => α) (f x) (fun _ _ _ => o) r) xs) o o
theorem oneK_of {α : Type} {d : D} {o : α} {f : D → α} (h : ∀ x, d = .lst [x] → f x = o) : oneK d o f = o := by
  cases d with
  | lst xs =>
    cases xs with
    | nil => rfl
    | cons x r => cases r with
      | nil => exact h x rfl
      | cons y r => rfl
  | _ => rfl
def oRepLC (c : Nat) (d e : D) : Option D := oneK d (oRepL d e) fun x => intK e (oRepL d e) fun m => bK (Nat.ble m c) (some (.lst (repDK x m))) (oRepL d e)
theorem rep_int (k : Int) (xs : List D) (h1 : k ≤ 16000000) (h2 : -16000000 ≤ k) (h3 : lenOk (xs.length * k.toNat) = true) : oRepL (.lst xs) (.int k) = some (.lst (List.replicate k.toNat xs).flatten) := by
  unfold oRepL
  simp only [decide_eq_true h1, decide_eq_true h2, h3, Bool.and_self]
theorem lenOk_small {n : Nat} (h : n ≤ 1000) : lenOk n = true := by
  unfold lenOk
  exact Nat.ble_eq_true_of_le (by omega)
theorem oRepL_one (x : D) (m : Nat) (h : m ≤ 1000) : oRepL (.lst [x]) (.int (.ofNat m)) = some (.lst (repDK x m)) := by
  rw [rep_int (.ofNat m) [x] (by simp only [Int.ofNat_eq_natCast]; omega) (by simp only [Int.ofNat_eq_natCast]; omega) (lenOk_small (by simp; exact h)), repDK_eq]
  rfl
theorem oRepLC_eq {c : Nat} (hc : c ≤ 1000) : oRepLC c = oRepL := by
  funext d e
  unfold oRepLC
  refine oneK_of fun x hx => intK_of fun m hm => ?_
  cases h : Nat.ble m c with
  | false => rw [bK_f]
  | true =>
    rw [bK_t, hx, hm]
    exact (oRepL_one x m (Nat.le_trans (Nat.le_of_ble_eq_true h) hc)).symm
def oRepLK : D → D → Option D := oRepLC 1000
theorem oRepLK_eq : oRepLK = oRepL := oRepLC_eq (Nat.le_refl 1000)
end
end EV
/-! a body of parts that keep nothing but the hand -/
namespace EV
open PySem PySem.Spec PyProof.Rows L2 RZ
noncomputable def pDic (k m : PX) : PX := fun st => ooK (k st) fun x => ooK (dIK x) fun _ => ooK (m st) fun _ => some .dic
theorem q_dic (k m : PX) : liE (pDic k m) = mDic (liE k) (liE m) := by
  funext st
  dsimp only [liE, pDic, mDic]
  cases k st with
  | none => rfl
  | some x =>
    simp only [ooK_some, opK_some, bd_ok]
    cases x with
    | int i =>
      show opK (ooK (m st) _) _ = R.bind (opK (m st) _) _
      cases m st <;> rfl
    | _ => rfl
noncomputable def natK {α : Type} (d : D) (o : α) (f : Nat → α) : α := D.casesOn d o (fun _ => o) (fun k => Int.rec (motive := fun _ => α) f (fun _ => o) k) (fun _ => o) (fun _ => o) (fun _ => o) o o
noncomputable def mPopAtK (g : GS) (s : SS) (m : ME) : ME := fun st => opK (g st) fun _ => bindK (m st) fun p => opK (g p.2) fun l => leK l fun xs => natK p.1 .bad fun k => bK (Nat.ble k 16000000) (opK (nthK xs k) fun d => .ok (d, s (some (.lst (xs.eraseIdx k))) p.2)) .bad
theorem q_popAt {i : Nat} {g : GS} {s : SS} (hg : GI i g) (hs : SI i s) (m : ME) : mPopAtK g s m = mPopAt i m := by
  funext st
  unfold mPopAtK mPopAt
  rw [hg.eq]
  cases getS st i with
  | none => rfl
  | some l0 =>
    show bindK (m st) _ = R.bind (m st) _
    rw [bindK_eq]
    congr 1
    funext p
    obtain ⟨d, sp⟩ := p
    rw [hg.eq]
    show opK (getS sp i) _ = (match getS sp i with | some (.lst xs) => (match d with | .int (.ofNat k) => _ | _ => _) | _ => _)
    cases getS sp i with
    | none => rfl
    | some l =>
      cases l with
      | lst xs =>
        cases d with
        | int z =>
          cases z with
          | ofNat k =>
            show bK (lenOk k) (opK (nthK xs k) _) .bad = (match lenOk k with | true => (match xs[k]? with | some d => _ | none => _) | false => _)
            rw [nthK_eq]
            cases lenOk k with
            | false => rfl
            | true =>
              show opK xs[k]? _ = (match xs[k]? with | some d => _ | none => _)
              cases xs[k]? with
              | none => rfl
              | some d =>
                show R.ok (d, s (some (.lst (xs.eraseIdx k))) sp) = R.ok (d, sp.set i (some (.lst (xs.eraseIdx k))))
                rw [hs.eq]
          | negSucc k => rfl
        | _ => rfl
      | _ => rfl
theorem sq_assoc (a b c : MS) : sSq (sSq a b) c = sSq a (sSq b c) := by
  funext st
  unfold sSq
  rw [bd_assoc]
  congr 1
  funext f
  cases f <;> rfl
theorem sq_skip (c : MS) : sSq sSkip c = c := by
  funext st
  rfl
def okNx (n : Nat) : Fl → Bool
  | .nx st => okSt n st
  | _ => false
theorem split_all {n : Nat} {mA mB : MS} {p : Fl → Prop} (hA : (mA (st1 n)).allb (okNx n) = true) (hB : (mB (st1 n)).all p) : (sSq mA (sFgt [1] mB) (st1 n)).all p := by
  unfold sSq
  refine R.bind_all (R.all_mono (fun fl q => ?_) (R.all_of (fun _ z => z) hA))
  cases fl with
  | nx st2 =>
    show R.all (mB (maskA [1] 0 st2)) p
    rw [okSt_mask q]
    exact hB
  | bk _ => cases q
  | ct _ => cases q
  | rt _ => cases q
theorem turns_all2 {n i : Nat} {m : MS} (hi : i ≠ 1) (h : (m (st1 n)).all fun fl => okFl n fl = true) : ∀ (ds : List D) (st : AS), maskA [1] 0 st = st1 n → (forL (.nm i) (sFgt [1] m) ds st).all fun fl => ∃ st', fl = .nx st' ∧ maskA [1] 0 st' = st1 n
  | [], st, e => ⟨st, rfl, e⟩
  | d :: ds, st, e => by
    have e1 : maskA [1] 0 (st.set i (some d)) = st1 n := by
      rcases mask_set (x := some d) hi (st := st) (j := 0) with q | q
      · rw [Nat.sub_zero] at q
        rw [q, e]
      · omega
    show R.all (R.bind (m (maskA [1] 0 (st.set i (some d)))) _) _
    rw [e1]
    refine R.bind_all (R.all_mono (fun fl q => ?_) h)
    cases fl with
    | nx st2 => exact turns_all2 hi h ds st2 (okSt_mask q)
    | ct st2 => exact turns_all2 hi h ds st2 (okSt_mask q)
    | bk _ => cases q
    | rt _ => cases q
theorem mask1 {n : Nat} (hn : 2 ≤ n) : maskA [1] 0 (st1 n) = st1 n := by
  refine okSt_mask ?_
  unfold okSt st1
  rw [Bool.and_eq_true, List.length_set, List.length_replicate]
  refine ⟨Nat.beq_refl n, ?_⟩
  match n, hn with
  | n + 2, _ => rfl
theorem loop_all {n i : Nat} {k : Int} {m e : MS} {p : Fl → Prop} (hi : i ≠ 1) (hn : 2 ≤ n) (hk : fits62 k = true) (h : (m (st1 n)).all fun fl => okFl n fl = true) (h2 : (e (st1 n)).all p) :
    (sSq (sFor (sR1 (mK (.int k))) (.nm i) (sFgt [1] m)) (sFgt [1] e) (st1 n)).all p := by
  show R.all (R.bind (R.bind (match fits62 k with | true => R.ok (rng 0 k.toNat, st1 n) | false => .bad) (fun x => forL (.nm i) (sFgt [1] m) x.1 x.2)) _) _
  rw [hk]
  refine R.bind_all (R.all_mono (fun fl q => ?_) (turns_all2 hi h _ _ (mask1 hn)))
  obtain ⟨st', rfl, e'⟩ := q
  show R.all (e (maskA [1] 0 st')) _
  rw [e']
  exact h2
theorem rt_all {x : R Fl} (h : x.allb okRt = true) : x.all fun fl => fl = .rt (.bl true) := R.all_of (fun _ z => okRt_eq z) h
theorem fl_all {n : Nat} {x : R Fl} (h : x.allb (okFl n) = true) : x.all fun fl => okFl n fl = true := R.all_of (fun _ z => z) h
end EV
/-! the fast words, a step at a time (for simp) -/
namespace EV
open PySem PySem.Spec PyProof.Rows L2
section
variable {α β : Type}
theorem bk_ok (a : α) (f : α → R β) : bindK (.ok a) f = f a := rfl
theorem bk_dr (n : Nat) (k : Nat → R α) (f : α → R β) : bindK (.dr n k) f = .dr n fun d => bindK (k d) f := rfl
theorem hd_cons (x : Option D) (r : AS) : hdK (x :: r) = x := rfl
theorem tl_cons (k : GS) (x : Option D) (r : AS) : tlK k (x :: r) = k r := rfl
theorem s0_cons (v x : Option D) (r : AS) : s0K v (x :: r) = v :: r := rfl
theorem st_cons (k : SS) (v x : Option D) (r : AS) : stK k v (x :: r) = x :: k v r := rfl
theorem in_nil (n : Nat) : initK [] n = repK n := rfl
theorem in_cons (x : D) (r : List D) (n : Nat) : initK (x :: r) (n + 1) = some x :: initK r n := rfl
theorem re_zero : repK 0 = [] := rfl
theorem re_succ (n : Nat) : repK (n + 1) = none :: repK n := rfl
theorem fl_nx (st : AS) (n : AS → R Fl) (r : D → R Fl) (b c : AS → R Fl) : flK (.nx st) n r b c = n st := rfl
theorem fl_rt (d : D) (n : AS → R Fl) (r : D → R Fl) (b c : AS → R Fl) : flK (.rt d) n r b c = r d := rfl
theorem fl_bk (st : AS) (n : AS → R Fl) (r : D → R Fl) (b c : AS → R Fl) : flK (.bk st) n r b c = b st := rfl
theorem fl_ct (st : AS) (n : AS → R Fl) (r : D → R Fl) (b c : AS → R Fl) : flK (.ct st) n r b c = c st := rfl
theorem rt_rt (ro : Bool) (d : D) : retK ro (.rt d) = .ok d := rfl
theorem rt_nx (st : AS) : retK false (.nx st) = .ok .non := rfl
theorem dB_bl (b : Bool) : dBK (.bl b) = some b := rfl
theorem dI_int (i : Int) : dIK (.int i) = some i := rfl
theorem sq_tup (xs : List D) : sqD (.tup xs) = some xs := rfl
theorem sq_lst (xs : List D) : sqD (.lst xs) = some xs := rfl
theorem at_tup (A : ALs) (xs : List D) (st : AS) : aTp A (.tup xs) st = A xs st := rfl
theorem al_nil (st : AS) : aNil [] st = some st := rfl
theorem al_cons (A : AT) (B : ALs) (x : D) (r : List D) (st : AS) : aCons A B (x :: r) st = ooK (A x st) fun st1 => B r st1 := rfl
theorem nm_set (s : SS) (d : D) (st : AS) : aNm s d st = some (s (some d) st) := rfl
theorem isi_tup_t (xs : List D) : oIsi [.tup] (.tup xs) = some (.bl true) := rfl
theorem nh_int (i : Int) : nHK (.int i) = true := rfl
theorem nh_tup (xs : List D) : nHK (.tup xs) = true := rfl
theorem nh_lst (xs : List D) : nHK (.lst xs) = true := rfl
theorem nh_bl (b : Bool) : nHK (.bl b) = true := rfl
theorem nh_all_nil : allNH [] = true := rfl
theorem nh_all_cons (x : D) (r : List D) : allNH (x :: r) = bK (nHK x) (allNH r) false := rfl
theorem ln_nil (n : Nat) : lenK [] n = Nat.ble n 16000000 := rfl
theorem ln_cons (x : D) (r : List D) (n : Nat) : lenK (x :: r) n = lenK r (n + 1) := rfl
theorem lc_nil (A : AT) (c : PB) (e : PX) (st : AS) (n : Nat) : lcP A c e st [] n = some [] := rfl
theorem lc_cons (A : AT) (c : PB) (e : PX) (st : AS) (d : D) (r : List D) (n : Nat) : lcP A c e st (d :: r) n = ooK (A d st) fun st1 => ooK (c st1) fun b => bK b (ooK (e st1) fun x => bK (nHK x) (bK (Nat.ble n 16000000) (ooK (lcP A c e st r (n + 1)) fun r => some (x :: r)) none) none) (lcP A c e st r n) := rfl
theorem lk_nil (A : AT) (c : MT) (e : ME) (st : AS) (n : Nat) : lcK A c e st [] n = .ok [] := rfl
theorem lk_cons (A : AT) (c : MT) (e : ME) (st : AS) (d : D) (r : List D) (n : Nat) : lcK A c e st (d :: r) n = opK (A d st) fun st1 => bindK (c st1) fun b => bK b.1 (bindK (e st1) fun x => bK (nHK x.1) (bK (Nat.ble n 16000000) (bindK (lcK A c e st r (n + 1)) fun r => .ok (x.1 :: r)) .bad) .bad) (lcK A c e st r n) := rfl
theorem fo_nil (A : AT) (b : MS) (st : AS) : forK A b [] st = .ok (.nx st) := rfl
theorem fo_cons (A : AT) (b : MS) (d : D) (r : List D) (st : AS) : forK A b (d :: r) st = opK (A d st) fun st1 => bindK (b st1) fun f => flK f (forK A b r) (fun d => .ok (.rt d)) (fun s => .ok (.nx s)) (forK A b r) := rfl
end
theorem all_l (xs : List D) : oAllK (.lst xs) = ooK (allBK xs) fun b => some (.bl b) := rfl
theorem any_l (xs : List D) : oAnyK (.lst xs) = ooK (anyBK xs) fun b => some (.bl b) := rfl
theorem allB_nil : allBK [] = some true := rfl
theorem anyB_nil : anyBK [] = some false := rfl
theorem allB_cons (x : D) (r : List D) : allBK (x :: r) = ooK (dBK x) fun b => ooK (allBK r) fun c => bK b (some c) (some false) := rfl
theorem anyB_cons (x : D) (r : List D) : anyBK (x :: r) = ooK (dBK x) fun b => ooK (anyBK r) fun c => bK b (some true) (some c) := rfl
theorem ix_t (xs : List D) (n : Nat) : oIxK (.tup xs) (.int (.ofNat n)) = nthK xs n := rfl
theorem ix_l (xs : List D) (n : Nat) : oIxK (.lst xs) (.int (.ofNat n)) = nthK xs n := rfl
theorem nth_z (x : D) (r : List D) : nthK (x :: r) 0 = some x := rfl
theorem nth_s (x : D) (r : List D) (n : Nat) : nthK (x :: r) (n + 1) = nthK r n := rfl
theorem ix_t0 (x : D) (r : List D) : oIxK (.tup (x :: r)) (.int 0) = some x := rfl
theorem ix_l0 (x : D) (r : List D) : oIxK (.lst (x :: r)) (.int 0) = some x := rfl
theorem ix_l1 (x y : D) (r : List D) : oIxK (.lst (x :: y :: r)) (.int 1) = some y := rfl
theorem ix_t1 (x y : D) (r : List D) : oIxK (.tup (x :: y :: r)) (.int 1) = some y := rfl
theorem ix_t2 (x y z : D) (r : List D) : oIxK (.tup (x :: y :: z :: r)) (.int 2) = some z := rfl
theorem seq_k (m : ME) (st : AS) : sSeq m st = bindK (m st) fun p => opK (sqD p.1) fun xs => .ok (xs, p.2) := by
  unfold sSeq
  rw [bindK_eq]
  congr 1
  funext p
  obtain ⟨d, s⟩ := p
  cases d <;> rfl
theorem ix_t3 (x y z u : D) (r : List D) : oIxK (.tup (x :: y :: z :: u :: r)) (.int 3) = some u := rfl
theorem skip_nx (st : AS) : sSkip st = .ok (.nx st) := rfl
/-! ints -/
theorem lt_t {i j : Int} (h : i < j) : ltIK i j = true := by rw [ltIK_eq]; exact decide_eq_true h
theorem lt_f {i j : Int} (h : j ≤ i) : ltIK i j = false := by rw [ltIK_eq]; exact decide_eq_false (by omega)
theorem eq_t {i j : Int} (h : i = j) : eqIK i j = true := by rw [eqIK_eq]; exact decide_eq_true h
theorem eq_f {i j : Int} (h : i ≠ j) : eqIK i j = false := by rw [eqIK_eq]; exact decide_eq_false h
theorem ge_i (i j : Int) : oGeK (.int i) (.int j) = some (.bl (decide (j ≤ i))) := congrFun (congrFun oGeK_eq _) _
theorem le_i (i j : Int) : oLeK (.int i) (.int j) = some (.bl (decide (i ≤ j))) := congrFun (congrFun oLeK_eq _) _
theorem lt_i (i j : Int) : oLtK (.int i) (.int j) = some (.bl (decide (i < j))) := congrFun (congrFun oLtK_eq _) _
theorem gt_i (i j : Int) : oGtK (.int i) (.int j) = some (.bl (decide (j < i))) := congrFun (congrFun oGtK_eq _) _
theorem add_i (i j : Int) : oAddK (.int i) (.int j) = some (.int (i + j)) := congrFun (congrFun oAddK_eq _) _
theorem sub_i (i j : Int) : oSubK (.int i) (.int j) = some (.int (i - j)) := congrFun (congrFun oSubK_eq _) _
theorem mod_i {i j : Int} (h : j ≠ 0) : oModK (.int i) (.int j) = some (.int (i.fmod j)) := by
  rw [oModK_eq]
  show (if decide (j ≠ 0) = true then _ else none) = _
  rw [if_pos (decide_eq_true h)]
theorem div_i {i j : Int} (h : j ≠ 0) (h2 : j.natAbs < 1073741824) : oDivK (.int i) (.int j) = some (.int (i.fdiv j)) := by
  rw [oDivK_eq]
  show (if divB j = true then _ else none) = _
  have : divB j = true := by unfold divB; rw [decide_eq_true h, decide_eq_true h2]; rfl
  rw [if_pos this]
theorem mul_i {i j : Int} (h : -1000000000 < i) (h2 : i < 1000000000) : oMulK (.int i) (.int j) = some (.int (i * j)) := by
  rw [oMulK_eq]
  exact mul_int i j (sm64' (by omega) (by omega))
theorem eq_i (f : Bool → Bool) (i j : Int) : oEqFK f (.int i) (.int j) = some (.bl (f (decide (i = j)))) := congrFun (congrFun (oEqFK_eq f) _) _
theorem len_t (xs : List D) : oLenK (.tup xs) = some (.int xs.length) := congrFun oLenK_eq _
theorem len_l (xs : List D) : oLenK (.lst xs) = some (.int xs.length) := congrFun oLenK_eq _
theorem ble_ok {n : Nat} (h : n ≤ 16000000) : Nat.ble n 16000000 = true := Nat.ble_eq_true_of_le h
theorem chl (i j : Int) : iop .lt i j = decide (i < j) := rfl
theorem chle (i j : Int) : iop .le i j = decide (i ≤ j) := rfl
theorem int_i (i : Int) : oInt (.int i) = some (.int i) := rfl
theorem fck_eq {α : Type} (d : D) (k : D → α) : fcK 6 d k = k d := fcK_eq 6 d k
theorem fclk_eq {α : Type} (ds : List D) (k : List D → α) : fcLK (fcK 6) ds k = k ds := fcLK_eq (fcK_eq 6) ds k
end EV
/-! comprehensions, loops, sets: what holds of them -/
namespace EV
open PySem PySem.Spec PyProof.Rows L2 RZ
theorem all_sq {a b : MS} {st : AS} {p : Fl → Prop} (h : (a st).all fun fl => ∃ st', fl = .nx st' ∧ (b st').all p) : (sSqK a b st).all p := by
  unfold sSqK
  rw [bindK_eq]
  refine R.bind_all (R.all_mono (fun fl q => ?_) h)
  obtain ⟨st', rfl, q⟩ := q
  exact q
theorem all_bk {α β : Type} {x : R α} {f : α → R β} {p : β → Prop} (h : x.all fun a => (f a).all p) : (bindK x f).all p := by
  rw [bindK_eq]
  exact R.bind_all h
theorem bk_assoc {α β γ : Type} (x : R α) (f : α → R β) (g : β → R γ) : bindK (bindK x f) g = bindK x fun a => bindK (f a) g := by
  rw [bindK_eq, bindK_eq, bindK_eq, bd_assoc]
  congr 1
  funext a
  rw [bindK_eq]
theorem split_k {ks : List Nat} {s0 s1 : AS} {mA mB : MS} {p : Fl → Prop} (hA : (mA s0).all fun fl => ∃ st, fl = .nx st ∧ maskA ks 0 st = s1) (hB : (mB s1).all p) : (sSq mA (sFgt ks mB) s0).all p := by
  unfold sSq
  refine R.bind_all (R.all_mono (fun fl q => ?_) hA)
  obtain ⟨st, rfl, e⟩ := q
  show R.all (mB (maskA ks 0 st)) p
  rw [e]
  exact hB
theorem split_p {ks : List Nat} {s0 : AS} {S : AS → Prop} {mA mB : MS} {p : Fl → Prop} (hA : (mA s0).all fun fl => ∃ st, fl = .nx st ∧ S (maskA ks 0 st)) (hB : ∀ s, S s → (mB s).all p) : (sSq mA (sFgt ks mB) s0).all p := by
  unfold sSq
  refine R.bind_all (R.all_mono (fun fl q => ?_) hA)
  obtain ⟨st, rfl, e⟩ := q
  exact hB _ e
section
variable {A : AT} {st : AS}
theorem lcK_all {c : MT} {e : ME} {Pm : D → Prop} : ∀ (ds : List D) (n : Nat), (∀ d ∈ ds, ∃ st1, A d st = some st1 ∧ (∃ s2, c st1 = .ok (true, s2)) ∧ (e st1).all fun x => Pm x.1 ∧ nHK x.1 = true) → n + ds.length ≤ 16000000 → (lcK A c e st ds n).all fun l => l.length = ds.length ∧ ∀ x ∈ l, Pm x
  | [], n, _, _ => ⟨rfl, fun x h => nomatch h⟩
  | d :: r, n, h, hn => by
    obtain ⟨st1, h1, ⟨s2, h2⟩, h3⟩ := h d (by simp)
    rw [List.length_cons] at hn
    rw [lk_cons, h1, opK_some, h2, bk_ok, bK_t]
    refine all_bk (R.all_mono (fun x hx => ?_) h3)
    rw [hx.2, bK_t, ble_ok (by omega), bK_t]
    refine all_bk (R.all_mono (fun l hl => ?_) (lcK_all r (n + 1) (fun d hd => h d (by simp [hd])) (by omega)))
    refine ⟨by rw [List.length_cons, List.length_cons, hl.1], fun y hy => ?_⟩
    rcases List.mem_cons.mp hy with q | q
    · rw [q]; exact hx.1
    · exact hl.2 y q
theorem lcK_map {c : MT} {e : ME} {f : D → D} : ∀ (ds : List D) (n : Nat), (∀ d ∈ ds, ∃ st1, A d st = some st1 ∧ (∃ s2, c st1 = .ok (true, s2)) ∧ (∃ s3, e st1 = .ok (f d, s3)) ∧ nHK (f d) = true) → n + ds.length ≤ 16000000 → lcK A c e st ds n = .ok (ds.map f)
  | [], n, _, _ => rfl
  | d :: r, n, h, hn => by
    obtain ⟨st1, h1, ⟨s2, h2⟩, ⟨s3, h3⟩, h4⟩ := h d (by simp)
    rw [List.length_cons] at hn
    rw [lk_cons, h1, opK_some, h2, bk_ok, bK_t, h3, bk_ok, h4, bK_t, ble_ok (by omega), bK_t, lcK_map r (n + 1) (fun d hd => h d (by simp [hd])) (by omega), bk_ok]
    rfl
theorem lcK_filter {c : MT} {e : ME} {f : D → Bool} : ∀ (ds : List D) (n : Nat), (∀ d ∈ ds, ∃ st1, A d st = some st1 ∧ (∃ s2, c st1 = .ok (f d, s2)) ∧ (∃ s3, e st1 = .ok (d, s3)) ∧ nHK d = true) → n + ds.length ≤ 16000000 → lcK A c e st ds n = .ok (ds.filter f)
  | [], n, _, _ => rfl
  | d :: r, n, h, hn => by
    obtain ⟨st1, h1, ⟨s2, h2⟩, ⟨s3, h3⟩, h4⟩ := h d (by simp)
    rw [List.length_cons] at hn
    rw [lk_cons, h1, opK_some, h2, bk_ok]
    cases e2 : f d with
    | true =>
      rw [bK_t, h3, bk_ok, h4, bK_t, ble_ok (by omega), bK_t, lcK_filter r (n + 1) (fun d hd => h d (by simp [hd])) (by omega), bk_ok, List.filter_cons, e2]
      rfl
    | false =>
      rw [bK_f, lcK_filter r n (fun d hd => h d (by simp [hd])) (by omega), List.filter_cons, e2]
      rfl
theorem lcP_map {c : PB} {e : PX} {f : D → D} : ∀ (ds : List D) (n : Nat), (∀ d ∈ ds, ∃ st1, A d st = some st1 ∧ c st1 = some true ∧ e st1 = some (f d) ∧ nHK (f d) = true) → n + ds.length ≤ 16000000 → lcP A c e st ds n = some (ds.map f)
  | [], n, _, _ => rfl
  | d :: r, n, h, hn => by
    obtain ⟨st1, h1, h2, h3, h4⟩ := h d (by simp)
    rw [List.length_cons] at hn
    rw [lc_cons, h1, ooK_some, h2, ooK_some, bK_t, h3, ooK_some, h4, bK_t, ble_ok (by omega), bK_t, lcP_map r (n + 1) (fun d hd => h d (by simp [hd])) (by omega), ooK_some]
    rfl
theorem lcP_mapg {α : Type} {c : PB} {e : PX} {g h : α → D} : ∀ (l : List α) (n : Nat), (∀ r ∈ l, ∃ st1, A (g r) st = some st1 ∧ c st1 = some true ∧ e st1 = some (h r) ∧ nHK (h r) = true) → n + l.length ≤ 16000000 → lcP A c e st (l.map g) n = some (l.map h)
  | [], n, _, _ => rfl
  | d :: r, n, hh, hn => by
    obtain ⟨st1, h1, h2, h3, h4⟩ := hh d (by simp)
    rw [List.length_cons] at hn
    rw [List.map_cons, lc_cons, h1, ooK_some, h2, ooK_some, bK_t, h3, ooK_some, h4, bK_t, ble_ok (by omega), bK_t, lcP_mapg r (n + 1) (fun d hd => hh d (by simp [hd])) (by omega), ooK_some]
    rfl
theorem lcP_filterg {α : Type} {c : PB} {e : PX} {g h : α → D} {f : α → Bool} : ∀ (l : List α) (n : Nat), (∀ r ∈ l, ∃ st1, A (g r) st = some st1 ∧ c st1 = some (f r) ∧ e st1 = some (h r) ∧ nHK (h r) = true) → n + l.length ≤ 16000000 → lcP A c e st (l.map g) n = some ((l.filter f).map h)
  | [], n, _, _ => rfl
  | d :: r, n, hh, hn => by
    obtain ⟨st1, h1, h2, h3, h4⟩ := hh d (by simp)
    rw [List.length_cons] at hn
    rw [List.map_cons, lc_cons, h1, ooK_some, h2, ooK_some]
    cases e2 : f d with
    | true =>
      rw [bK_t, h3, ooK_some, h4, bK_t, ble_ok (by omega), bK_t, lcP_filterg r (n + 1) (fun d hd => hh d (by simp [hd])) (by omega), ooK_some, List.filter_cons, e2]
      rfl
    | false =>
      rw [bK_f, lcP_filterg r n (fun d hd => hh d (by simp [hd])) (by omega), List.filter_cons, e2]
      rfl
theorem lcK_mapg {α : Type} {c : MT} {e : ME} {g h : α → D} : ∀ (l : List α) (n : Nat), (∀ r ∈ l, ∃ st1, A (g r) st = some st1 ∧ (∃ s2, c st1 = .ok (true, s2)) ∧ (∃ s3, e st1 = .ok (h r, s3)) ∧ nHK (h r) = true) → n + l.length ≤ 16000000 → lcK A c e st (l.map g) n = .ok (l.map h)
  | [], n, _, _ => rfl
  | d :: r, n, hh, hn => by
    obtain ⟨st1, h1, ⟨s2, h2⟩, ⟨s3, h3⟩, h4⟩ := hh d (by simp)
    rw [List.length_cons] at hn
    rw [List.map_cons, lk_cons, h1, opK_some, h2, bk_ok, bK_t, h3, bk_ok, h4, bK_t, ble_ok (by omega), bK_t, lcK_mapg r (n + 1) (fun d hd => hh d (by simp [hd])) (by omega), bk_ok]
    rfl
/-- a loop that is never left early -/
theorem forK_all {b : MS} {I : AS → Prop} : ∀ (ds : List D) (st : AS), (∀ d ∈ ds, ∀ st, I st → ∃ st1, A d st = some st1 ∧ (b st1).all fun fl => ∃ st2, (fl = .nx st2 ∨ fl = .ct st2) ∧ I st2) → I st → (forK A b ds st).all fun fl => ∃ st2, fl = .nx st2 ∧ I st2
  | [], st, _, h => ⟨st, rfl, h⟩
  | d :: r, st, h, hi => by
    obtain ⟨st1, h1, h2⟩ := h d (by simp) st hi
    rw [fo_cons, h1, opK_some]
    refine all_bk (R.all_mono (fun fl q => ?_) h2)
    obtain ⟨st2, e, i2⟩ := q
    rcases e with rfl | rfl
    · exact forK_all r st2 (fun d hd => h d (by simp [hd])) i2
    · exact forK_all r st2 (fun d hd => h d (by simp [hd])) i2
/-- .. with a state of its own -/
theorem forK_fold {α : Type} {b : MS} {I : α → AS → Prop} {f : α → D → α} : ∀ (ds : List D) (a : α) (st : AS), (∀ d ∈ ds, ∀ a st, I a st → ∃ st1, A d st = some st1 ∧ ∃ st2, (b st1 = .ok (.nx st2) ∨ b st1 = .ok (.ct st2)) ∧ I (f a d) st2) → I a st → ∃ st2, forK A b ds st = .ok (.nx st2) ∧ I (ds.foldl f a) st2
  | [], a, st, _, h => ⟨st, rfl, h⟩
  | d :: r, a, st, h, hi => by
    obtain ⟨st1, h1, st2, h2, i2⟩ := h d (by simp) a st hi
    obtain ⟨st3, h3, i3⟩ := forK_fold (b := b) (I := I) (f := f) r (f a d) st2 (fun d hd => h d (by simp [hd])) i2
    refine ⟨st3, ?_, i3⟩
    rw [fo_cons, h1, opK_some]
    rcases h2 with h2 | h2
    · rw [h2, bk_ok, fl_nx]; exact h3
    · rw [h2, bk_ok, fl_ct]; exact h3
end
/-! calls -/
theorem asK_call {A : AT} {φ : List D → R D} {l : PL} {st : AS} {xs : List D} {Pm : D → Prop} {Q : Fl → Prop} (h1 : l st = some xs) (h2 : (φ xs).all Pm) (h3 : ∀ r, Pm r → ∃ st', A r st = some st' ∧ Q (.nx st')) : (sAsK A (mCallP φ l) st).all Q := by
  unfold sAsK mCallP
  refine all_bk ?_
  rw [h1, opK_some, fclk_eq]
  refine all_bk (R.all_mono (fun r hr => ?_) h2)
  rw [fck_eq]
  obtain ⟨st', e, q⟩ := h3 r hr
  show (opK (A r st) _).all Q
  rw [e, opK_some]
  exact q
theorem asK_callK {A : AT} {φ : List D → R D} {l : ML} {st : AS} {Pm : D → Prop} {Q : Fl → Prop} (h1 : (l st).all fun p => p.2 = st ∧ (φ p.1).all Pm) (h3 : ∀ r, Pm r → ∃ st', A r st = some st' ∧ Q (.nx st')) : (sAsK A (mCallK φ l) st).all Q := by
  unfold sAsK mCallK
  refine all_bk ?_
  refine all_bk (R.all_mono (fun p hp => ?_) h1)
  rw [fclk_eq]
  refine all_bk (R.all_mono (fun r hr => ?_) hp.2)
  rw [fck_eq, hp.1]
  obtain ⟨st', e, q⟩ := h3 r hr
  show (opK (A r st) _).all Q
  rw [e, opK_some]
  exact q
theorem callP_all {φ : List D → R D} {l : PL} {st : AS} {xs : List D} {Pm : D → Prop} (h1 : l st = some xs) (h2 : (φ xs).all Pm) : (mCallP φ l st).all fun p => p.2 = st ∧ Pm p.1 := by
  unfold mCallP
  rw [h1, opK_some, fclk_eq]
  refine all_bk (R.all_mono (fun r hr => ?_) h2)
  rw [fck_eq]
  exact ⟨rfl, hr⟩
theorem callP_ok {φ : List D → R D} {l : PL} {st : AS} {xs : List D} {v : D} (h1 : l st = some xs) (h2 : φ xs = .ok v) : mCallP φ l st = .ok (v, st) := by
  unfold mCallP
  rw [h1, opK_some, fclk_eq, h2, bk_ok, fck_eq]
theorem lcons_all {m : ME} {l : ML} {st : AS} {P1 : D → Prop} {P2 : List D → Prop} (h1 : (m st).all fun p => p.2 = st ∧ P1 p.1) (h2 : (l st).all fun p => p.2 = st ∧ P2 p.1) : (lConsK m l st).all fun p => p.2 = st ∧ ∃ x xs, p.1 = x :: xs ∧ P1 x ∧ P2 xs := by
  unfold lConsK
  refine all_bk (R.all_mono (fun p hp => ?_) h1)
  rw [hp.1]
  refine all_bk (R.all_mono (fun q hq => ?_) h2)
  exact ⟨hq.1, p.1, q.1, rfl, hp.2, hq.2⟩
/-! lists of ints -/
theorem ints_mapg {α : Type} (f : α → Int) : ∀ l : List α, ints? (l.map fun r => D.int (f r)) = some (l.map f)
  | [] => rfl
  | x :: r => by
    show (match ints? (r.map fun r => D.int (f r)) with | some l => some (f x :: l) | none => none) = _
    rw [ints_mapg f r]
    rfl
theorem maxI_ge : ∀ (l : List Int) (x : Int), x ≤ maxI x l ∧ ∀ y ∈ l, y ≤ maxI x l
  | [], x => ⟨Int.le_refl _, fun _ h => nomatch h⟩
  | z :: r, x => by
    show x ≤ maxI (if x < z then z else x) r ∧ ∀ y ∈ z :: r, y ≤ maxI (if x < z then z else x) r
    have hm : x ≤ (if x < z then z else x) ∧ z ≤ (if x < z then z else x) := by split <;> omega
    obtain ⟨h1, h2⟩ := maxI_ge r (if x < z then z else x)
    generalize (if x < z then z else x) = m at *
    refine ⟨by omega, fun y hy => ?_⟩
    rcases List.mem_cons.mp hy with q | q
    · rw [q]; omega
    · exact h2 y q
theorem maxI_le : ∀ (l : List Int) (x M : Int), x ≤ M → (∀ y ∈ l, y ≤ M) → maxI x l ≤ M
  | [], _, _, h, _ => h
  | z :: r, x, M, h, hl => by
    show maxI (if x < z then z else x) r ≤ M
    refine maxI_le r _ M ?_ fun y hy => hl y (by simp [hy])
    have := hl z (by simp)
    split <;> omega
theorem max_ok {α : Type} {f : α → Int} {l : List α} {M : Int} (h1 : ∃ r ∈ l, f r = M) (h2 : ∀ r ∈ l, f r ≤ M) : oMaxLK (.lst (l.map fun r => D.int (f r))) = some (.int M) := by
  rw [oMaxLK_eq]
  show (match ints? (l.map fun r => D.int (f r)) with | some (x :: r) => some (D.int (maxI x r)) | _ => none) = _
  rw [ints_mapg]
  cases l with
  | nil => obtain ⟨r, hr, _⟩ := h1; cases hr
  | cons z r =>
    show some (D.int (maxI (f z) (r.map f))) = _
    have le := maxI_le (r.map f) (f z) M (h2 z (by simp)) fun y hy => by
      obtain ⟨q, hq, rfl⟩ := List.mem_map.mp hy
      exact h2 q (by simp [hq])
    obtain ⟨q, hq, e⟩ := h1
    have ge : M ≤ maxI (f z) (r.map f) := by
      obtain ⟨g1, g2⟩ := maxI_ge (r.map f) (f z)
      rcases List.mem_cons.mp hq with q1 | q1
      · rw [← e, q1]; exact g1
      · rw [← e]; exact g2 _ (List.mem_map.mpr ⟨q, q1, rfl⟩)
    congr 2
    omega
theorem sum_ok {α : Type} (f : α → Int) (l : List α) : oSumK (.lst (l.map fun r => D.int (f r))) = some (.int (sumI (l.map f))) := by
  rw [oSumK_eq]
  show (ints? (l.map fun r => D.int (f r))).map (fun l => D.int (sumI l)) = _
  rw [ints_mapg]
  rfl
theorem anyB_mapg {α : Type} (f : α → Bool) : ∀ l : List α, anyBK (l.map fun r => D.bl (f r)) = some (l.any f)
  | [] => rfl
  | x :: r => by
    show ooK (dBK (.bl (f x))) (fun b => ooK (anyBK (r.map fun r => D.bl (f r))) fun c => bK b (some true) (some c)) = _
    rw [anyB_mapg f r]
    show bK (f x) (some true) (some (r.any f)) = some (f x || r.any f)
    cases f x <;> rfl
theorem allB_mapg {α : Type} (f : α → Bool) : ∀ l : List α, allBK (l.map fun r => D.bl (f r)) = some (l.all f)
  | [] => rfl
  | x :: r => by
    show ooK (dBK (.bl (f x))) (fun b => ooK (allBK (r.map fun r => D.bl (f r))) fun c => bK b (some c) (some false)) = _
    rw [allB_mapg f r]
    show bK (f x) (some (r.all f)) (some false) = some (f x && r.all f)
    cases f x <;> rfl
theorem cut_take (xs : List D) (i : Nat) : cutD xs none (some (i : Int)) = xs.take i := by
  unfold cutD
  rw [HT.sIx_none, HT.sIx_nat, List.drop_zero, Nat.sub_zero]
  by_cases h : i ≤ xs.length
  · rw [Nat.min_eq_left h]
  · rw [Nat.min_eq_right (by omega), List.take_length, List.take_of_length_le (by omega)]
theorem cut_drop (xs : List D) (i : Nat) : cutD xs (some (i : Int)) none = xs.drop i := by
  unfold cutD
  rw [HT.sIx_none, HT.sIx_nat]
  by_cases h : i ≤ xs.length
  · rw [Nat.min_eq_left h, List.take_of_length_le (by rw [List.length_drop]; omega)]
  · rw [Nat.min_eq_right (by omega), Nat.sub_self, List.take_zero, List.drop_of_length_le (by omega)]
/-! sets of tuples of whole numbers -/
abbrev tupZ (k : List Int) : D := .tup (k.map D.int)
theorem ints_map : ∀ k : List Int, ints? (k.map D.int) = some k
  | [] => rfl
  | x :: r => by
    show (match ints? (r.map D.int) with | some l => some (x :: l) | none => none) = _
    rw [ints_map r]
theorem tupi_map : ∀ ks : List (List Int), tupi? (ks.map tupZ) = some ks
  | [] => rfl
  | k :: r => by
    show (match ints? (k.map D.int) with | some k => (match tupi? (r.map tupZ) with | some ks => some (k :: ks) | none => none) | none => none) = _
    rw [ints_map, tupi_map r]
theorem oSSet_tups {ks : List (List Int)} (h0 : ks ≠ []) (h1 : ks.length < 64) (h2 : 1 ≤ wid ks) (h3 : ks.all (bdB (wid ks)) = true) : oSSet2 (.lst (ks.map tupZ)) = some (.lst ((dsort ks).map tupZ)) := by
  have e : ints? (ks.map tupZ) = none := by
    cases ks with
    | nil => exact absurd rfl h0
    | cons k r => rfl
  unfold oSSet2
  simp only [e]
  unfold oSSet
  simp only [tupi_map]
  have : (Nat.blt ks.length 64 && Nat.ble 1 (wid ks) && ks.all (bdB (wid ks))) = true := by
    rw [h3, Nat.ble_eq_true_of_le h2, Bool.and_true, Bool.and_true]
    exact Nat.ble_eq_true_of_le h1
  rw [this]
theorem oLSet_tups {ks : List (List Int)} (h0 : ks ≠ []) (h1 : ks.length < 64) (h2 : ks.Nodup) : oLSet (.lst (ks.map tupZ)) = some (.int ks.length) := by
  have e : ints? (ks.map tupZ) = none := by
    cases ks with
    | nil => exact absurd rfl h0
    | cons k r => rfl
  unfold oLSet
  simp only [e, tupi_map]
  have : Nat.blt ks.length 64 = true := Nat.ble_eq_true_of_le h1
  rw [this]
  simp only
  congr 2
  have := nodup_len dd_nodup h2 (fun x => dd_mem (l := ks) (x := x))
  rw [this]
theorem dsort_nodup {ks : List (List Int)} : (dsort ks).Nodup := by
  refine List.Pairwise.imp (fun {a b} h e => ?_) dsort_sorted
  rw [e] at h
  exact absurd h (Int.lt_irrefl _)
theorem dsort_le {ks : List (List Int)} : (dsort ks).length ≤ ks.length := nodup_le dsort_nodup fun x hx => dsort_mem hx
theorem dsort_ne {ks : List (List Int)} (h : ks ≠ []) : dsort ks ≠ [] := by
  cases ks with
  | nil => exact absurd rfl h
  | cons k r =>
    obtain ⟨y, hy, _⟩ := dsort_cov (l := k :: r) (x := k) (by simp)
    intro e
    rw [e] at hy
    cases hy
end EV
set_option maxHeartbeats 0
namespace EV
open PySem PySem.Spec PyProof.Rows L2
def fd0 : Fd := ⟨"common_divisor", 2, false, ["one", "other"], [], (.sq (.wh 1000 (.cmp .gt (.v 1) (.k (.int 0))) (.sq (.par [0, 1] (.cons (.v 1) (.cons (.bin .mod (.c1 .int (.v 0)) (.v 1)) .nil))) .skip)) (.sq (.ret (.v 0)) .skip))⟩
def fd1 : Fd := ⟨"fraction", 2, false, ["top", "bottom", "divisor"], [], (.sq (.ifs (.cmp .lt (.v 1) (.k (.int 0))) (.sq (.par [0, 1] (.cons (.neg (.v 0)) (.cons (.neg (.v 1)) .nil))) .skip) .skip) (.sq (.asg (.nm 2) (.fn 0 (.cons (.c1 .abs (.v 0)) (.cons (.v 1) .nil)))) (.sq (.ret (.tup (.cons (.bin .div (.v 0) (.v 2)) (.cons (.bin .div (.v 1) (.v 2)) .nil)))) .skip)))⟩
def fd2 : Fd := ⟨"times", 2, false, ["one", "other"], [], (.sq (.ret (.fn 1 (.cons (.bin .mul (.ix (.v 0) (.k (.int 0))) (.ix (.v 1) (.k (.int 0)))) (.cons (.bin .mul (.ix (.v 0) (.k (.int 1))) (.ix (.v 1) (.k (.int 1)))) .nil)))) .skip)⟩
def fd3 : Fd := ⟨"over", 2, false, ["one", "other"], [], (.sq (.ret (.fn 1 (.cons (.bin .mul (.ix (.v 0) (.k (.int 0))) (.ix (.v 1) (.k (.int 1)))) (.cons (.bin .mul (.ix (.v 0) (.k (.int 1))) (.ix (.v 1) (.k (.int 0)))) .nil)))) .skip)⟩
def fd4 : Fd := ⟨"is_integer", 1, false, ["thing"], [], (.sq (.ret (.and (.isi [.int] (.v 0)) (.one (.not (.isi [.bool] (.v 0)))))) .skip)⟩
def fd5 : Fd := ⟨"is_within", 3, false, ["thing", "low", "high"], [], (.sq (.ret (.and (.fn 4 (.cons (.v 0) .nil)) (.one (.chain .le .le (.v 1) (.v 0) (.v 2))))) .skip)⟩
def fd6 : Fd := ⟨"is_row", 1, false, ["thing"], [], (.sq (.ret (.isi [.lst, .tup] (.v 0))) .skip)⟩
def fd7 : Fd := ⟨"check_cut", 1, false, ["cut", "place", "part", "one"], [], (.sq (.ifs (.or (.not (.fn 6 (.cons (.v 0) .nil))) (.one (.not (.chain .le .le (.k (.int 1)) (.c1 .len (.v 0)) (.g 1))))) (.sq .nev .skip) .skip) (.sq (.for_ (.enum (.v 0)) (.tp (.cons (.nm 1) (.cons (.nm 2) .nil))) (.sq (.ifs (.or (.not (.fn 6 (.cons (.v 2) .nil))) (.or (.cmp .ne (.c1 .len (.v 2)) (.k (.int 4))) (.one (.not (.c1 .all (.lc [3] (.nm 3) (.seq (.v 2)) .yes (.fn 5 (.cons (.v 3) (.cons (.k (.int 0)) (.cons (.g 0) .nil)))))))))) (.sq .nev .skip) .skip) (.sq (.ifs (.or (.cmp .eq (.ix (.v 2) (.k (.int 2))) (.k (.int 0))) (.one (.cmp .eq (.ix (.v 2) (.k (.int 3))) (.k (.int 0))))) (.sq .nev .skip) .skip) .skip))) .skip))⟩
def fd8 : Fd := ⟨"frame", 1, false, ["cut", "part"], [], (.sq (.drp (.fn 7 (.cons (.v 0) .nil))) (.sq (.ret (.tup (.cons (.c1 .max (.lc [1] (.nm 1) (.seq (.v 0)) .yes (.bin .add (.ix (.v 1) (.k (.int 0))) (.ix (.v 1) (.k (.int 2)))))) (.cons (.c1 .max (.lc [1] (.nm 1) (.seq (.v 0)) .yes (.bin .add (.ix (.v 1) (.k (.int 1))) (.ix (.v 1) (.k (.int 3)))))) .nil)))) .skip))⟩
def fd9 : Fd := ⟨"do_meet", 2, false, ["one", "other", "across"], [], (.sq (.asg (.nm 2) (.and (.cmp .lt (.ix (.v 0) (.k (.int 0))) (.bin .add (.ix (.v 1) (.k (.int 0))) (.ix (.v 1) (.k (.int 2))))) (.one (.cmp .lt (.ix (.v 1) (.k (.int 0))) (.bin .add (.ix (.v 0) (.k (.int 0))) (.ix (.v 0) (.k (.int 2)))))))) (.sq (.ret (.and (.v 2) (.and (.cmp .lt (.ix (.v 0) (.k (.int 1))) (.bin .add (.ix (.v 1) (.k (.int 1))) (.ix (.v 1) (.k (.int 3))))) (.one (.cmp .lt (.ix (.v 1) (.k (.int 1))) (.bin .add (.ix (.v 0) (.k (.int 1))) (.ix (.v 0) (.k (.int 3))))))))) .skip))⟩
def fd10 : Fd := ⟨"is_cut", 1, false, ["thing", "part", "at", "one", "wide", "high", "other"], [], (.sq (.ifs (.or (.not (.fn 6 (.cons (.v 0) .nil))) (.one (.not (.chain .le .le (.k (.int 1)) (.c1 .len (.v 0)) (.g 1))))) (.sq (.ret (.k (.bl false))) .skip) .skip) (.sq (.for_ (.seq (.v 0)) (.nm 1) (.sq (.ifs (.or (.not (.fn 6 (.cons (.v 1) .nil))) (.or (.cmp .ne (.c1 .len (.v 1)) (.k (.int 4))) (.one (.not (.c1 .all (.lc [3] (.nm 3) (.seq (.v 1)) .yes (.fn 5 (.cons (.v 3) (.cons (.k (.int 0)) (.cons (.g 0) .nil)))))))))) (.sq (.ret (.k (.bl false))) .skip) .skip) (.sq (.ifs (.or (.cmp .eq (.ix (.v 1) (.k (.int 2))) (.k (.int 0))) (.one (.cmp .eq (.ix (.v 1) (.k (.int 3))) (.k (.int 0))))) (.sq (.ret (.k (.bl false))) .skip) .skip) .skip))) (.sq (.for_ (.enum (.v 0)) (.tp (.cons (.nm 2) (.cons (.nm 3) .nil))) (.sq (.ifs (.c1 .any (.lc [6] (.nm 6) (.seq (.sl false (.v 0) .np (.pt (.v 2)))) .yes (.fn 9 (.cons (.v 3) (.cons (.v 6) .nil))))) (.sq (.ret (.k (.bl false))) .skip) .skip) .skip)) (.sq (.asg (.tp (.cons (.nm 4) (.cons (.nm 5) .nil))) (.fn 8 (.cons (.v 0) .nil))) (.sq (.ret (.cmp .eq (.c1 .sum (.lc [1] (.nm 1) (.seq (.v 0)) .yes (.bin .mul (.ix (.v 1) (.k (.int 2))) (.ix (.v 1) (.k (.int 3)))))) (.bin .mul (.v 4) (.v 5)))) .skip)))))⟩
def fd11 : Fd := ⟨"check_whole", 1, false, ["cut"], [], (.sq (.drp (.fn 7 (.cons (.v 0) .nil))) (.sq (.ifs (.not (.fn 10 (.cons (.v 0) .nil))) (.sq .nev .skip) .skip) .skip))⟩
def fd12 : Fd := ⟨"are_squares", 1, false, ["cut", "part"], [], (.sq (.drp (.fn 11 (.cons (.v 0) .nil))) (.sq (.ret (.c1 .all (.lc [1] (.nm 1) (.seq (.v 0)) .yes (.cmp .eq (.ix (.v 1) (.k (.int 2))) (.ix (.v 1) (.k (.int 3))))))) .skip))⟩
def fd13 : Fd := ⟨"are_unlike", 1, false, ["cut", "sizes", "part"], [], (.sq (.drp (.fn 11 (.cons (.v 0) .nil))) (.sq (.asg (.nm 1) (.lc [2] (.nm 2) (.seq (.v 0)) .yes (.c1 .tuple (.sorted (.tup (.cons (.ix (.v 2) (.k (.int 2))) (.cons (.ix (.v 2) (.k (.int 3))) .nil))))))) (.sq (.ret (.cmp .eq (.lset (.v 1)) (.c1 .len (.v 1)))) .skip)))⟩
def fd14 : Fd := ⟨"cuts_through", 1, false, ["cut", "level", "upright", "wide", "high", "y", "x", "part"], [], (.sq (.drp (.fn 11 (.cons (.v 0) .nil))) (.sq (.asg (.tp (.cons (.nm 3) (.cons (.nm 4) .nil))) (.fn 8 (.cons (.v 0) .nil))) (.sq (.asg (.nm 1) (.lc [5] (.nm 5) (.r2 (.k (.int 1)) (.v 4)) (.not (.c1 .any (.lc [7] (.nm 7) (.seq (.v 0)) .yes (.chain .lt .lt (.ix (.v 7) (.k (.int 1))) (.v 5) (.bin .add (.ix (.v 7) (.k (.int 1))) (.ix (.v 7) (.k (.int 3)))))))) (.v 5))) (.sq (.asg (.nm 2) (.lc [6] (.nm 6) (.r2 (.k (.int 1)) (.v 3)) (.not (.c1 .any (.lc [7] (.nm 7) (.seq (.v 0)) .yes (.chain .lt .lt (.ix (.v 7) (.k (.int 0))) (.v 6) (.bin .add (.ix (.v 7) (.k (.int 0))) (.ix (.v 7) (.k (.int 2)))))))) (.v 6))) (.sq (.ret (.tup (.cons (.v 1) (.cons (.v 2) .nil)))) .skip)))))⟩
def fd15 : Fd := ⟨"mirrored", 1, false, ["cut", "wide", "part"], [], (.sq (.drp (.fn 11 (.cons (.v 0) .nil))) (.sq (.asg (.nm 1) (.ix (.fn 8 (.cons (.v 0) .nil)) (.k (.int 0)))) (.sq (.ret (.c1 .tuple (.lc [2] (.nm 2) (.seq (.v 0)) .yes (.tup (.cons (.bin .sub (.bin .sub (.v 1) (.ix (.v 2) (.k (.int 0)))) (.ix (.v 2) (.k (.int 2)))) (.cons (.ix (.v 2) (.k (.int 1))) (.cons (.ix (.v 2) (.k (.int 2))) (.cons (.ix (.v 2) (.k (.int 3))) .nil)))))))) .skip)))⟩
def fd16 : Fd := ⟨"turned", 1, false, ["cut", "part"], [], (.sq (.drp (.fn 11 (.cons (.v 0) .nil))) (.sq (.ret (.c1 .tuple (.lc [1] (.nm 1) (.seq (.v 0)) .yes (.tup (.cons (.ix (.v 1) (.k (.int 1))) (.cons (.ix (.v 1) (.k (.int 0))) (.cons (.ix (.v 1) (.k (.int 3))) (.cons (.ix (.v 1) (.k (.int 2))) .nil)))))))) .skip))⟩
def fd17 : Fd := ⟨"grown", 2, false, ["cut", "number", "part", "one"], [], (.sq (.drp (.fn 11 (.cons (.v 0) .nil))) (.sq (.ifs (.not (.fn 5 (.cons (.v 1) (.cons (.k (.int 1)) (.cons (.g 0) .nil))))) (.sq .nev .skip) .skip) (.sq (.ret (.c1 .tuple (.lc [2] (.nm 2) (.seq (.v 0)) .yes (.c1 .tuple (.lc [3] (.nm 3) (.seq (.v 2)) .yes (.bin .mul (.v 3) (.v 1))))))) .skip)))⟩
def fd18 : Fd := ⟨"with_square", 2, false, ["cut", "at_right", "wide", "high"], [], (.sq (.drp (.fn 11 (.cons (.v 0) .nil))) (.sq (.asg (.tp (.cons (.nm 2) (.cons (.nm 3) .nil))) (.fn 8 (.cons (.v 0) .nil))) (.sq (.ret (.c1 .tuple (.cat (.list (.v 0)) (.lst (.cons (.ifx (.v 1) (.tup (.cons (.v 2) (.cons (.k (.int 0)) (.cons (.v 3) (.cons (.v 3) .nil))))) (.tup (.cons (.k (.int 0)) (.cons (.v 3) (.cons (.v 2) (.cons (.v 2) .nil)))))) .nil))))) .skip)))⟩
def fd19 : Fd := ⟨"shares_of", 1, false, ["cut", "wide", "high", "part"], [], (.sq (.drp (.fn 11 (.cons (.v 0) .nil))) (.sq (.asg (.tp (.cons (.nm 1) (.cons (.nm 2) .nil))) (.fn 8 (.cons (.v 0) .nil))) (.sq (.ret (.c1 .tuple (.lc [3] (.nm 3) (.seq (.v 0)) .yes (.fn 1 (.cons (.bin .mul (.ix (.v 3) (.k (.int 2))) (.ix (.v 3) (.k (.int 3)))) (.cons (.bin .mul (.v 1) (.v 2)) .nil)))))) .skip)))⟩
def fd20 : Fd := ⟨"stretched", 3, false, ["cut", "across", "down", "found", "x", "y", "wide", "high"], [3], (.sq (.drp (.fn 11 (.cons (.v 0) .nil))) (.sq (.aso 3 (.lst .nil)) (.sq (.for_ (.seq (.v 0)) (.tp (.cons (.nm 4) (.cons (.nm 5) (.cons (.nm 6) (.cons (.nm 7) .nil))))) (.sq (.app 3 (.tup (.cons (.fn 2 (.cons (.tup (.cons (.v 4) (.cons (.k (.int 1)) .nil))) (.cons (.v 1) .nil))) (.cons (.fn 2 (.cons (.tup (.cons (.v 5) (.cons (.k (.int 1)) .nil))) (.cons (.v 2) .nil))) (.cons (.fn 2 (.cons (.tup (.cons (.v 6) (.cons (.k (.int 1)) .nil))) (.cons (.v 1) .nil))) (.cons (.fn 2 (.cons (.tup (.cons (.v 7) (.cons (.k (.int 1)) .nil))) (.cons (.v 2) .nil))) .nil)))))) .skip)) (.sq (.ret (.c1 .tuple (.b 3))) .skip))))⟩
def fd21 : Fd := ⟨"ratio", 1, false, ["cut", "wide", "high"], [], (.sq (.asg (.tp (.cons (.nm 1) (.cons (.nm 2) .nil))) (.fn 8 (.cons (.v 0) .nil))) (.sq (.ret (.fn 3 (.cons (.tup (.cons (.v 1) (.cons (.k (.int 1)) .nil))) (.cons (.tup (.cons (.v 2) (.cons (.k (.int 1)) .nil))) .nil)))) .skip))⟩
def fd22 : Fd := ⟨"_law_draw", 2, false, ["hand", "many", "number", "cell", "digit"], [], .nev⟩
def fd23 : Fd := ⟨"_law_cut", 4, false, ["hand", "wide", "high", "most", "parts_now", "turn", "found", "at", "rest", "x", "y", "w", "h", "by"], [6, 4], (.sq (.aso 4 (.lst (.cons (.tup (.cons (.k (.int 0)) (.cons (.k (.int 0)) (.cons (.v 1) (.cons (.v 2) .nil))))) .nil))) (.sq (.for_ (.r1 (.fn 22 (.cons (.v 0) (.cons (.v 3) .nil)))) (.nm 5) (.sq (.asg (.nm 7) (.fn 22 (.cons (.v 0) (.cons (.c1 .len (.b 4)) .nil)))) (.sq (.asg (.tp (.cons (.nm 9) (.cons (.nm 10) (.cons (.nm 11) (.cons (.nm 12) .nil))))) (.ix (.b 4) (.v 7))) (.sq (.asg (.nm 8) (.bin .add (.sl false (.b 4) .np (.pt (.v 7))) (.sl false (.b 4) (.pt (.bin .add (.v 7) (.k (.int 1)))) .np))) (.sq (.ifs (.and (.cmp .eq (.fn 22 (.cons (.v 0) (.cons (.k (.int 2)) .nil))) (.k (.int 0))) (.one (.cmp .gt (.v 11) (.k (.int 1))))) (.sq (.asg (.nm 13) (.bin .add (.k (.int 1)) (.fn 22 (.cons (.v 0) (.cons (.bin .sub (.v 11) (.k (.int 1))) .nil))))) (.sq (.aso 4 (.cat (.v 8) (.lst (.cons (.tup (.cons (.v 9) (.cons (.v 10) (.cons (.v 13) (.cons (.v 12) .nil))))) (.cons (.tup (.cons (.bin .add (.v 9) (.v 13)) (.cons (.v 10) (.cons (.bin .sub (.v 11) (.v 13)) (.cons (.v 12) .nil))))) .nil))))) .skip)) (.sq (.ifs (.cmp .gt (.v 12) (.k (.int 1))) (.sq (.asg (.nm 13) (.bin .add (.k (.int 1)) (.fn 22 (.cons (.v 0) (.cons (.bin .sub (.v 12) (.k (.int 1))) .nil))))) (.sq (.aso 4 (.cat (.v 8) (.lst (.cons (.tup (.cons (.v 9) (.cons (.v 10) (.cons (.v 11) (.cons (.v 13) .nil))))) (.cons (.tup (.cons (.v 9) (.cons (.bin .add (.v 10) (.v 13)) (.cons (.v 11) (.cons (.bin .sub (.v 12) (.v 13)) .nil))))) .nil))))) .skip)) .skip) .skip)) .skip))))) (.sq (.aso 6 (.lst .nil)) (.sq (.wh 1000 (.cmp .gt (.c1 .len (.b 4)) (.k (.int 0))) (.sq (.app 6 (.popAt 4 (.fn 22 (.cons (.v 0) (.cons (.c1 .len (.b 4)) .nil))))) .skip)) (.sq (.ret (.c1 .tuple (.b 6))) .skip)))))⟩
def fd24 : Fd := ⟨"_law_low", 2, false, ["top", "bottom", "one", "other"], [], (.sq (.par [2, 3] (.cons (.c1 .abs (.v 0)) (.cons (.c1 .abs (.v 1)) .nil))) (.sq (.wh 1000 (.cmp .ne (.v 3) (.k (.int 0))) (.sq (.par [2, 3] (.cons (.v 3) (.cons (.bin .mod (.c1 .int (.v 2)) (.v 3)) .nil))) .skip)) (.sq (.asg (.nm 2) (.ifx (.cmp .gt (.v 1) (.k (.int 0))) (.v 2) (.bin .sub (.k (.int 0)) (.v 2)))) (.sq (.ret (.tup (.cons (.bin .div (.v 0) (.v 2)) (.cons (.bin .div (.v 1) (.v 2)) .nil)))) .skip))))⟩
def FL : List Fd := [fd0, fd1, fd2, fd3, fd4, fd5, fd6, fd7, fd8, fd9, fd10, fd11, fd12, fd13, fd14, fd15, fd16, fd17, fd18, fd19, fd20, fd21, fd22, fd23, fd24]
def consL : List Str := ["MOST_SIDE", "MOST_PARTS"]
theorem c0 : chk (gmOf FL consL fd0) fd0.body (defScope (topS 7)) (fun _ => true) (.b false (defBody (topS 7))) = true := by decide +kernel
theorem c1 : chk (gmOf FL consL fd1) fd1.body (defScope (topS 8)) (fun _ => true) (.b false (defBody (topS 8))) = true := by decide +kernel
theorem c2 : chk (gmOf FL consL fd2) fd2.body (defScope (topS 9)) (fun _ => true) (.b false (defBody (topS 9))) = true := by decide +kernel
theorem c3 : chk (gmOf FL consL fd3) fd3.body (defScope (topS 10)) (fun _ => true) (.b false (defBody (topS 10))) = true := by decide +kernel
theorem c4 : chk (gmOf FL consL fd4) fd4.body (defScope (topS 12)) (fun _ => true) (.b false (defBody (topS 12))) = true := by decide +kernel
theorem c5 : chk (gmOf FL consL fd5) fd5.body (defScope (topS 13)) (fun _ => true) (.b false (defBody (topS 13))) = true := by decide +kernel
theorem c6 : chk (gmOf FL consL fd6) fd6.body (defScope (topS 14)) (fun _ => true) (.b false (defBody (topS 14))) = true := by decide +kernel
theorem c7 : chk (gmOf FL consL fd7) fd7.body (defScope (topS 18)) (fun _ => true) (.b false (defBody (topS 18))) = true := by decide +kernel
theorem c8 : chk (gmOf FL consL fd8) fd8.body (defScope (topS 19)) (fun _ => true) (.b false (defBody (topS 19))) = true := by decide +kernel
theorem c9 : chk (gmOf FL consL fd9) fd9.body (defScope (topS 20)) (fun _ => true) (.b false (defBody (topS 20))) = true := by decide +kernel
theorem c10 : chk (gmOf FL consL fd10) fd10.body (defScope (topS 21)) (fun _ => true) (.b false (defBody (topS 21))) = true := by decide +kernel
theorem c11 : chk (gmOf FL consL fd11) fd11.body (defScope (topS 22)) (fun _ => true) (.b false (defBody (topS 22))) = true := by decide +kernel
theorem c12 : chk (gmOf FL consL fd12) fd12.body (defScope (topS 23)) (fun _ => true) (.b false (defBody (topS 23))) = true := by decide +kernel
theorem c13 : chk (gmOf FL consL fd13) fd13.body (defScope (topS 24)) (fun _ => true) (.b false (defBody (topS 24))) = true := by decide +kernel
theorem c14 : chk (gmOf FL consL fd14) fd14.body (defScope (topS 25)) (fun _ => true) (.b false (defBody (topS 25))) = true := by decide +kernel
theorem c15 : chk (gmOf FL consL fd15) fd15.body (defScope (topS 26)) (fun _ => true) (.b false (defBody (topS 26))) = true := by decide +kernel
theorem c16 : chk (gmOf FL consL fd16) fd16.body (defScope (topS 27)) (fun _ => true) (.b false (defBody (topS 27))) = true := by decide +kernel
theorem c17 : chk (gmOf FL consL fd17) fd17.body (defScope (topS 28)) (fun _ => true) (.b false (defBody (topS 28))) = true := by decide +kernel
theorem c18 : chk (gmOf FL consL fd18) fd18.body (defScope (topS 29)) (fun _ => true) (.b false (defBody (topS 29))) = true := by decide +kernel
theorem c19 : chk (gmOf FL consL fd19) fd19.body (defScope (topS 30)) (fun _ => true) (.b false (defBody (topS 30))) = true := by decide +kernel
theorem c20 : chk (gmOf FL consL fd20) fd20.body (defScope (topS 31)) (fun _ => true) (.b false (defBody (topS 31))) = true := by decide +kernel
theorem c21 : chk (gmOf FL consL fd21) fd21.body (defScope (topS 32)) (fun _ => true) (.b false (defBody (topS 32))) = true := by decide +kernel
theorem c23 : chk (gmOf FL consL fd23) fd23.body (defScope (topS 36)) (fun _ => true) (.b false (defBody (topS 36))) = true := by decide +kernel
theorem c24 : chk (gmOf FL consL fd24) fd24.body (defScope (topS 37)) (fun _ => true) (.b false (defBody (topS 37))) = true := by decide +kernel
def κL : Nat → D
  | 0 => .int 200
  | 1 => .int 24
  | _ => .non
def prL (j : Nat) : Option (List D → R D) := match j with
  | 22 => some phiDraw
  | _ => none
noncomputable section
def nn0 : MS := (sSqK (whK (liT (pT (p2 oGtK g1 (pK (.int 0))))) (sSqK (sPar2K s0 s1 (liE g1) (liE (p2 oModK (p1 oInt g0) g1))) sSkip) 1000) (sSqK (sRetP g0) sSkip))
def F0 : List D → R D := runK false 2 nn0
theorem fm0 (φ : Nat → List D → R D)  : runB φ κL fd0 = F0 := by
  funext ds
  unfold F0
  rw [runK_eq]
  unfold nn0
  simp only [oGtK_eq, oModK_eq, q_1, q_2, q_T, q_k, q_par2 S0 S1, q_retP, q_sq, q_v G0, q_v G1, q_wh]
  kernel_rfl
theorem fe0 (n : Nat) (h : 1 ≤ n) : callF FL κL prL n 0 = F0 := by
  cases n with
  | zero => omega
  | succ n => exact fm0 (callF FL κL prL n) 
def nn1 : MS := (sSqK (sIfP (pT (p2 oLtK g1 (pK (.int 0)))) (sSqK (sPar2K s0 s1 (liE (p1 oNeg g0)) (liE (p1 oNeg g1))) sSkip) sSkip) (sSqK (sAsK (aNm s2) (mCallP F0 (pCons (p1 oAbs g0) (pCons g1 pNil)))) (sSqK (sRetP (pTup (pCons (p2 oDivK g0 g2) (pCons (p2 oDivK g1 g2) pNil)))) sSkip)))
def F1 : List D → R D := runK false 3 nn1
theorem fm1 (φ : Nat → List D → R D) (h0 : φ 0 = F0) : runB φ κL fd1 = F1 := by
  funext ds
  unfold F1
  rw [runK_eq]
  unfold nn1
  simp only [oDivK_eq, oLtK_eq, q_1, q_2, q_T, q_asK (PtI.nm S2), q_callP, q_cons, q_ifP, q_k, q_nil, q_par2 S0 S1, q_retP, q_sq, q_tup, q_v G0, q_v G1, q_v G2, ← h0]
  kernel_rfl
theorem fe1 (n : Nat) (h : 2 ≤ n) : callF FL κL prL n 1 = F1 := by
  cases n with
  | zero => omega
  | succ n => exact fm1 (callF FL κL prL n) (fe0 n (by omega))
def nn2 : MS := (sSqK (sRetK (mCallP F1 (pCons (p2 oMulK (p2 oIxK g0 (pK (.int 0))) (p2 oIxK g1 (pK (.int 0)))) (pCons (p2 oMulK (p2 oIxK g0 (pK (.int 1))) (p2 oIxK g1 (pK (.int 1)))) pNil)))) sSkip)
def F2 : List D → R D := runK false 2 nn2
theorem fm2 (φ : Nat → List D → R D) (h1 : φ 1 = F1) : runB φ κL fd2 = F2 := by
  funext ds
  unfold F2
  rw [runK_eq]
  unfold nn2
  simp only [oIxK_eq, oMulK_eq, q_2, q_callP, q_cons, q_k, q_nil, q_retK, q_sq, q_v G0, q_v G1, ← h1]
  kernel_rfl
theorem fe2 (n : Nat) (h : 3 ≤ n) : callF FL κL prL n 2 = F2 := by
  cases n with
  | zero => omega
  | succ n => exact fm2 (callF FL κL prL n) (fe1 n (by omega))
def nn3 : MS := (sSqK (sRetK (mCallP F1 (pCons (p2 oMulK (p2 oIxK g0 (pK (.int 0))) (p2 oIxK g1 (pK (.int 1)))) (pCons (p2 oMulK (p2 oIxK g0 (pK (.int 1))) (p2 oIxK g1 (pK (.int 0)))) pNil)))) sSkip)
def F3 : List D → R D := runK false 2 nn3
theorem fm3 (φ : Nat → List D → R D) (h1 : φ 1 = F1) : runB φ κL fd3 = F3 := by
  funext ds
  unfold F3
  rw [runK_eq]
  unfold nn3
  simp only [oIxK_eq, oMulK_eq, q_2, q_callP, q_cons, q_k, q_nil, q_retK, q_sq, q_v G0, q_v G1, ← h1]
  kernel_rfl
theorem fe3 (n : Nat) (h : 3 ≤ n) : callF FL κL prL n 3 = F3 := by
  cases n with
  | zero => omega
  | succ n => exact fm3 (callF FL κL prL n) (fe1 n (by omega))
def nn4 : MS := (sSqK (sRetP (pAndE (p1 (oIsi [.int]) g0) (pNotE (p1 (oIsi [.bool]) g0)))) sSkip)
def F4 : List D → R D := runK false 1 nn4
theorem fm4 (φ : Nat → List D → R D)  : runB φ κL fd4 = F4 := by
  funext ds
  unfold F4
  rw [runK_eq]
  unfold nn4
  simp only [q_1, q_andE, q_notE, q_retP, q_sq, q_v G0]
  kernel_rfl
theorem fe4 (n : Nat) (h : 1 ≤ n) : callF FL κL prL n 4 = F4 := by
  cases n with
  | zero => omega
  | succ n => exact fm4 (callF FL κL prL n) 
def nn5 : MS := (sSqK (sRetK (mAndK (mCallP F4 (pCons g0 pNil)) (liE (pChain (iop .le) (iop .le) g1 g0 g2)))) sSkip)
def F5 : List D → R D := runK false 3 nn5
theorem fm5 (φ : Nat → List D → R D) (h4 : φ 4 = F4) : runB φ κL fd5 = F5 := by
  funext ds
  unfold F5
  rw [runK_eq]
  unfold nn5
  simp only [q_callP, q_chain, q_cons, q_mAnd, q_nil, q_retK, q_sq, q_v G0, q_v G1, q_v G2, ← h4]
  kernel_rfl
theorem fe5 (n : Nat) (h : 2 ≤ n) : callF FL κL prL n 5 = F5 := by
  cases n with
  | zero => omega
  | succ n => exact fm5 (callF FL κL prL n) (fe4 n (by omega))
def nn6 : MS := (sSqK (sRetP (p1 (oIsi [.lst, .tup]) g0)) sSkip)
def F6 : List D → R D := runK false 1 nn6
theorem fm6 (φ : Nat → List D → R D)  : runB φ κL fd6 = F6 := by
  funext ds
  unfold F6
  rw [runK_eq]
  unfold nn6
  simp only [q_1, q_retP, q_sq, q_v G0]
  kernel_rfl
theorem fe6 (n : Nat) (h : 1 ≤ n) : callF FL κL prL n 6 = F6 := by
  cases n with
  | zero => omega
  | succ n => exact fm6 (callF FL κL prL n) 
def nn7 : MS := (sSqK (sIfK (tOrK (tNotK (tValK (mCallP F6 (pCons g0 pNil)))) (liT (pNotT (pT (pChain (iop .le) (iop .le) (pK (.int 1)) (p1 oLenK g0) (pK (.int 24))))))) (sSqK sNev sSkip) sSkip) (sSqK (sForP (pEnum g0) (aTp (aCons (aNm s1) (aCons (aNm s2) aNil))) (sSqK (sIfK (tOrK (tNotK (tValK (mCallP F6 (pCons g2 pNil)))) (tOrK (liT (pT (p2 (oEqFK (fun b => !b)) (p1 oLenK g2) (pK (.int 4))))) (tNotK (tValK (m1K oAllK (mLcK (liI (pSeq g2)) (aNm s3) (fun st => s3 none (id st)) (liT pYes) (mCallP F5 (pCons g3 (pCons (pK (.int 0)) (pCons (pK (.int 200)) pNil)))))))))) (sSqK sNev sSkip) sSkip) (sSqK (sIfP (pOrT (pT (p2 (oEqFK id) (p2 oIxK g2 (pK (.int 2))) (pK (.int 0)))) (pT (p2 (oEqFK id) (p2 oIxK g2 (pK (.int 3))) (pK (.int 0))))) (sSqK sNev sSkip) sSkip) sSkip))) sSkip))
def F7 : List D → R D := runK false 4 nn7
theorem fm7 (φ : Nat → List D → R D) (h5 : φ 5 = F5) (h6 : φ 6 = F6) : runB φ κL fd7 = F7 := by
  funext ds
  unfold F7
  rw [runK_eq]
  unfold nn7
  simp only [oAllK_eq, oEqFK_eq, oIxK_eq, oLenK_eq, q_1, q_2, q_T, q_callP, q_chain, q_cons, q_enum, q_forP (PtI.tp (PlI.cons (PtI.nm S1) (PlI.cons (PtI.nm S2) PlI.nil))), q_ifK, q_ifP, q_k, q_lcK (PtI.nm S3) (WI.cons S3 WI.nil), q_m1, q_nil, q_notT, q_orT, q_seq, q_sq, q_tNot, q_tOr, q_tVal, q_v G0, q_v G2, q_v G3, q_yes, ← h5, ← h6]
  kernel_rfl
theorem fe7 (n : Nat) (h : 3 ≤ n) : callF FL κL prL n 7 = F7 := by
  cases n with
  | zero => omega
  | succ n => exact fm7 (callF FL κL prL n) (fe5 n (by omega)) (fe6 n (by omega))
def nn8 : MS := (sSqK (sDrpK (mCallP F7 (pCons g0 pNil))) (sSqK (sRetP (pTup (pCons (p1 oMaxLK (pLc (pSeq g0) (aNm s1) (fun st => s1 none (id st)) pYes (p2 oAddK (p2 oIxK g1 (pK (.int 0))) (p2 oIxK g1 (pK (.int 2)))))) (pCons (p1 oMaxLK (pLc (pSeq g0) (aNm s1) (fun st => s1 none (id st)) pYes (p2 oAddK (p2 oIxK g1 (pK (.int 1))) (p2 oIxK g1 (pK (.int 3)))))) pNil)))) sSkip))
def F8 : List D → R D := runK false 2 nn8
theorem fm8 (φ : Nat → List D → R D) (h7 : φ 7 = F7) : runB φ κL fd8 = F8 := by
  funext ds
  unfold F8
  rw [runK_eq]
  unfold nn8
  simp only [oAddK_eq, oIxK_eq, oMaxLK_eq, q_1, q_2, q_callP, q_cons, q_drp, q_k, q_lc (PtI.nm S1) (WI.cons S1 WI.nil), q_nil, q_retP, q_seq, q_sq, q_tup, q_v G0, q_v G1, q_yes, ← h7]
  kernel_rfl
theorem fe8 (n : Nat) (h : 4 ≤ n) : callF FL κL prL n 8 = F8 := by
  cases n with
  | zero => omega
  | succ n => exact fm8 (callF FL κL prL n) (fe7 n (by omega))
def nn9 : MS := (sSqK (sAsP (aNm s2) (pAndE (p2 oLtK (p2 oIxK g0 (pK (.int 0))) (p2 oAddK (p2 oIxK g1 (pK (.int 0))) (p2 oIxK g1 (pK (.int 2))))) (p2 oLtK (p2 oIxK g1 (pK (.int 0))) (p2 oAddK (p2 oIxK g0 (pK (.int 0))) (p2 oIxK g0 (pK (.int 2))))))) (sSqK (sRetP (pAndE g2 (pAndE (p2 oLtK (p2 oIxK g0 (pK (.int 1))) (p2 oAddK (p2 oIxK g1 (pK (.int 1))) (p2 oIxK g1 (pK (.int 3))))) (p2 oLtK (p2 oIxK g1 (pK (.int 1))) (p2 oAddK (p2 oIxK g0 (pK (.int 1))) (p2 oIxK g0 (pK (.int 3)))))))) sSkip))
def F9 : List D → R D := runK false 3 nn9
theorem fm9 (φ : Nat → List D → R D)  : runB φ κL fd9 = F9 := by
  funext ds
  unfold F9
  rw [runK_eq]
  unfold nn9
  simp only [oAddK_eq, oIxK_eq, oLtK_eq, q_2, q_andE, q_asP (PtI.nm S2), q_k, q_retP, q_sq, q_v G0, q_v G1, q_v G2]
  kernel_rfl
theorem fe9 (n : Nat) (h : 1 ≤ n) : callF FL κL prL n 9 = F9 := by
  cases n with
  | zero => omega
  | succ n => exact fm9 (callF FL κL prL n) 
def nn10 : MS := (sSqK (sIfK (tOrK (tNotK (tValK (mCallP F6 (pCons g0 pNil)))) (liT (pNotT (pT (pChain (iop .le) (iop .le) (pK (.int 1)) (p1 oLenK g0) (pK (.int 24))))))) (sSqK (sRetP (pK (.bl false))) sSkip) sSkip) (sSqK (sForP (pSeq g0) (aNm s1) (sSqK (sIfK (tOrK (tNotK (tValK (mCallP F6 (pCons g1 pNil)))) (tOrK (liT (pT (p2 (oEqFK (fun b => !b)) (p1 oLenK g1) (pK (.int 4))))) (tNotK (tValK (m1K oAllK (mLcK (liI (pSeq g1)) (aNm s3) (fun st => s3 none (id st)) (liT pYes) (mCallP F5 (pCons g3 (pCons (pK (.int 0)) (pCons (pK (.int 200)) pNil)))))))))) (sSqK (sRetP (pK (.bl false))) sSkip) sSkip) (sSqK (sIfP (pOrT (pT (p2 (oEqFK id) (p2 oIxK g1 (pK (.int 2))) (pK (.int 0)))) (pT (p2 (oEqFK id) (p2 oIxK g1 (pK (.int 3))) (pK (.int 0))))) (sSqK (sRetP (pK (.bl false))) sSkip) sSkip) sSkip))) (sSqK (sForP (pEnum g0) (aTp (aCons (aNm s2) (aCons (aNm s3) aNil))) (sSqK (sIfK (tValK (m1K oAnyK (mLcK (liI (pSeq (pSl false g0 pNo (pPart g2)))) (aNm s6) (fun st => s6 none (id st)) (liT pYes) (mCallP F9 (pCons g3 (pCons g6 pNil)))))) (sSqK (sRetP (pK (.bl false))) sSkip) sSkip) sSkip)) (sSqK (sAsK (aTp (aCons (aNm s4) (aCons (aNm s5) aNil))) (mCallP F8 (pCons g0 pNil))) (sSqK (sRetP (p2 (oEqFK id) (p1 oSumK (pLc (pSeq g0) (aNm s1) (fun st => s1 none (id st)) pYes (p2 oMulK (p2 oIxK g1 (pK (.int 2))) (p2 oIxK g1 (pK (.int 3)))))) (p2 oMulK g4 g5))) sSkip)))))
def F10 : List D → R D := runK false 7 nn10
theorem fm10 (φ : Nat → List D → R D) (h5 : φ 5 = F5) (h6 : φ 6 = F6) (h8 : φ 8 = F8) (h9 : φ 9 = F9) : runB φ κL fd10 = F10 := by
  funext ds
  unfold F10
  rw [runK_eq]
  unfold nn10
  simp only [oAllK_eq, oAnyK_eq, oEqFK_eq, oIxK_eq, oLenK_eq, oMulK_eq, oSumK_eq, q_1, q_2, q_T, q_asK (PtI.tp (PlI.cons (PtI.nm S4) (PlI.cons (PtI.nm S5) PlI.nil))), q_callP, q_chain, q_cons, q_enum, q_forP (PtI.nm S1), q_forP (PtI.tp (PlI.cons (PtI.nm S2) (PlI.cons (PtI.nm S3) PlI.nil))), q_ifK, q_ifP, q_k, q_lc (PtI.nm S1) (WI.cons S1 WI.nil), q_lcK (PtI.nm S3) (WI.cons S3 WI.nil), q_lcK (PtI.nm S6) (WI.cons S6 WI.nil), q_m1, q_nil, q_no, q_notT, q_orT, q_part, q_retP, q_seq, q_sl, q_sq, q_tNot, q_tOr, q_tVal, q_v G0, q_v G1, q_v G2, q_v G3, q_v G4, q_v G5, q_v G6, q_yes, ← h5, ← h6, ← h8, ← h9]
  kernel_rfl
theorem fe10 (n : Nat) (h : 5 ≤ n) : callF FL κL prL n 10 = F10 := by
  cases n with
  | zero => omega
  | succ n => exact fm10 (callF FL κL prL n) (fe5 n (by omega)) (fe6 n (by omega)) (fe8 n (by omega)) (fe9 n (by omega))
def nn11 : MS := (sSqK (sDrpK (mCallP F7 (pCons g0 pNil))) (sSqK (sIfK (tNotK (tValK (mCallP F10 (pCons g0 pNil)))) (sSqK sNev sSkip) sSkip) sSkip))
def F11 : List D → R D := runK false 1 nn11
theorem fm11 (φ : Nat → List D → R D) (h7 : φ 7 = F7) (h10 : φ 10 = F10) : runB φ κL fd11 = F11 := by
  funext ds
  unfold F11
  rw [runK_eq]
  unfold nn11
  simp only [q_callP, q_cons, q_drp, q_ifK, q_nil, q_sq, q_tNot, q_tVal, q_v G0, ← h7, ← h10]
  kernel_rfl
theorem fe11 (n : Nat) (h : 6 ≤ n) : callF FL κL prL n 11 = F11 := by
  cases n with
  | zero => omega
  | succ n => exact fm11 (callF FL κL prL n) (fe7 n (by omega)) (fe10 n (by omega))
def nn12 : MS := (sSqK (sDrpK (mCallP F11 (pCons g0 pNil))) (sSqK (sRetP (p1 oAllK (pLc (pSeq g0) (aNm s1) (fun st => s1 none (id st)) pYes (p2 (oEqFK id) (p2 oIxK g1 (pK (.int 2))) (p2 oIxK g1 (pK (.int 3))))))) sSkip))
def F12 : List D → R D := runK false 2 nn12
theorem fm12 (φ : Nat → List D → R D) (h11 : φ 11 = F11) : runB φ κL fd12 = F12 := by
  funext ds
  unfold F12
  rw [runK_eq]
  unfold nn12
  simp only [oAllK_eq, oEqFK_eq, oIxK_eq, q_1, q_2, q_callP, q_cons, q_drp, q_k, q_lc (PtI.nm S1) (WI.cons S1 WI.nil), q_nil, q_retP, q_seq, q_sq, q_v G0, q_v G1, q_yes, ← h11]
  kernel_rfl
theorem fe12 (n : Nat) (h : 7 ≤ n) : callF FL κL prL n 12 = F12 := by
  cases n with
  | zero => omega
  | succ n => exact fm12 (callF FL κL prL n) (fe11 n (by omega))
def nn13 : MS := (sSqK (sDrpK (mCallP F11 (pCons g0 pNil))) (sSqK (sAsP (aNm s1) (pLc (pSeq g0) (aNm s2) (fun st => s2 none (id st)) pYes (p1 oTuple (p1 oSortK (pTup (pCons (p2 oIxK g2 (pK (.int 2))) (pCons (p2 oIxK g2 (pK (.int 3))) pNil))))))) (sSqK (sRetP (p2 (oEqFK id) (p1 oLSet g1) (p1 oLenK g1))) sSkip)))
def F13 : List D → R D := runK false 3 nn13
theorem fm13 (φ : Nat → List D → R D) (h11 : φ 11 = F11) : runB φ κL fd13 = F13 := by
  funext ds
  unfold F13
  rw [runK_eq]
  unfold nn13
  simp only [oEqFK_eq, oIxK_eq, oLenK_eq, oSortK_eq, q_1, q_2, q_asP (PtI.nm S1), q_callP, q_cons, q_drp, q_k, q_lc (PtI.nm S2) (WI.cons S2 WI.nil), q_nil, q_retP, q_seq, q_sq, q_tup, q_v G0, q_v G1, q_v G2, q_yes, ← h11]
  kernel_rfl
theorem fe13 (n : Nat) (h : 7 ≤ n) : callF FL κL prL n 13 = F13 := by
  cases n with
  | zero => omega
  | succ n => exact fm13 (callF FL κL prL n) (fe11 n (by omega))
def nn14 : MS := (sSqK (sDrpK (mCallP F11 (pCons g0 pNil))) (sSqK (sAsK (aTp (aCons (aNm s3) (aCons (aNm s4) aNil))) (mCallP F8 (pCons g0 pNil))) (sSqK (sAsP (aNm s1) (pLc (pR2 (pK (.int 1)) g4) (aNm s5) (fun st => s5 none (id st)) (pNotT (pT (p1 oAnyK (pLc (pSeq g0) (aNm s7) (fun st => s7 none (id st)) pYes (pChain (iop .lt) (iop .lt) (p2 oIxK g7 (pK (.int 1))) g5 (p2 oAddK (p2 oIxK g7 (pK (.int 1))) (p2 oIxK g7 (pK (.int 3))))))))) g5)) (sSqK (sAsP (aNm s2) (pLc (pR2 (pK (.int 1)) g3) (aNm s6) (fun st => s6 none (id st)) (pNotT (pT (p1 oAnyK (pLc (pSeq g0) (aNm s7) (fun st => s7 none (id st)) pYes (pChain (iop .lt) (iop .lt) (p2 oIxK g7 (pK (.int 0))) g6 (p2 oAddK (p2 oIxK g7 (pK (.int 0))) (p2 oIxK g7 (pK (.int 2))))))))) g6)) (sSqK (sRetP (pTup (pCons g1 (pCons g2 pNil)))) sSkip)))))
def F14 : List D → R D := runK false 8 nn14
theorem fm14 (φ : Nat → List D → R D) (h8 : φ 8 = F8) (h11 : φ 11 = F11) : runB φ κL fd14 = F14 := by
  funext ds
  unfold F14
  rw [runK_eq]
  unfold nn14
  simp only [oAddK_eq, oAnyK_eq, oIxK_eq, q_1, q_2, q_T, q_asK (PtI.tp (PlI.cons (PtI.nm S3) (PlI.cons (PtI.nm S4) PlI.nil))), q_asP (PtI.nm S1), q_asP (PtI.nm S2), q_callP, q_chain, q_cons, q_drp, q_k, q_lc (PtI.nm S5) (WI.cons S5 WI.nil), q_lc (PtI.nm S6) (WI.cons S6 WI.nil), q_lc (PtI.nm S7) (WI.cons S7 WI.nil), q_nil, q_notT, q_r2, q_retP, q_seq, q_sq, q_tup, q_v G0, q_v G1, q_v G2, q_v G3, q_v G4, q_v G5, q_v G6, q_v G7, q_yes, ← h8, ← h11]
  kernel_rfl
theorem fe14 (n : Nat) (h : 7 ≤ n) : callF FL κL prL n 14 = F14 := by
  cases n with
  | zero => omega
  | succ n => exact fm14 (callF FL κL prL n) (fe8 n (by omega)) (fe11 n (by omega))
def nn15 : MS := (sSqK (sDrpK (mCallP F11 (pCons g0 pNil))) (sSqK (sAsK (aNm s1) (m2K oIxK (mCallP F8 (pCons g0 pNil)) (liE (pK (.int 0))))) (sSqK (sRetP (p1 oTuple (pLc (pSeq g0) (aNm s2) (fun st => s2 none (id st)) pYes (pTup (pCons (p2 oSubK (p2 oSubK g1 (p2 oIxK g2 (pK (.int 0)))) (p2 oIxK g2 (pK (.int 2)))) (pCons (p2 oIxK g2 (pK (.int 1))) (pCons (p2 oIxK g2 (pK (.int 2))) (pCons (p2 oIxK g2 (pK (.int 3))) pNil)))))))) sSkip)))
def F15 : List D → R D := runK false 3 nn15
theorem fm15 (φ : Nat → List D → R D) (h8 : φ 8 = F8) (h11 : φ 11 = F11) : runB φ κL fd15 = F15 := by
  funext ds
  unfold F15
  rw [runK_eq]
  unfold nn15
  simp only [oIxK_eq, oSubK_eq, q_1, q_2, q_asK (PtI.nm S1), q_callP, q_cons, q_drp, q_k, q_lc (PtI.nm S2) (WI.cons S2 WI.nil), q_m2, q_nil, q_retP, q_seq, q_sq, q_tup, q_v G0, q_v G1, q_v G2, q_yes, ← h8, ← h11]
  kernel_rfl
theorem fe15 (n : Nat) (h : 7 ≤ n) : callF FL κL prL n 15 = F15 := by
  cases n with
  | zero => omega
  | succ n => exact fm15 (callF FL κL prL n) (fe8 n (by omega)) (fe11 n (by omega))
def nn16 : MS := (sSqK (sDrpK (mCallP F11 (pCons g0 pNil))) (sSqK (sRetP (p1 oTuple (pLc (pSeq g0) (aNm s1) (fun st => s1 none (id st)) pYes (pTup (pCons (p2 oIxK g1 (pK (.int 1))) (pCons (p2 oIxK g1 (pK (.int 0))) (pCons (p2 oIxK g1 (pK (.int 3))) (pCons (p2 oIxK g1 (pK (.int 2))) pNil)))))))) sSkip))
def F16 : List D → R D := runK false 2 nn16
theorem fm16 (φ : Nat → List D → R D) (h11 : φ 11 = F11) : runB φ κL fd16 = F16 := by
  funext ds
  unfold F16
  rw [runK_eq]
  unfold nn16
  simp only [oIxK_eq, q_1, q_2, q_callP, q_cons, q_drp, q_k, q_lc (PtI.nm S1) (WI.cons S1 WI.nil), q_nil, q_retP, q_seq, q_sq, q_tup, q_v G0, q_v G1, q_yes, ← h11]
  kernel_rfl
theorem fe16 (n : Nat) (h : 7 ≤ n) : callF FL κL prL n 16 = F16 := by
  cases n with
  | zero => omega
  | succ n => exact fm16 (callF FL κL prL n) (fe11 n (by omega))
def nn17 : MS := (sSqK (sDrpK (mCallP F11 (pCons g0 pNil))) (sSqK (sIfK (tNotK (tValK (mCallP F5 (pCons g1 (pCons (pK (.int 1)) (pCons (pK (.int 200)) pNil)))))) (sSqK sNev sSkip) sSkip) (sSqK (sRetP (p1 oTuple (pLc (pSeq g0) (aNm s2) (fun st => s2 none (id st)) pYes (p1 oTuple (pLc (pSeq g2) (aNm s3) (fun st => s3 none (id st)) pYes (p2 oMulK g3 g1)))))) sSkip)))
def F17 : List D → R D := runK false 4 nn17
theorem fm17 (φ : Nat → List D → R D) (h5 : φ 5 = F5) (h11 : φ 11 = F11) : runB φ κL fd17 = F17 := by
  funext ds
  unfold F17
  rw [runK_eq]
  unfold nn17
  simp only [oMulK_eq, q_1, q_2, q_callP, q_cons, q_drp, q_ifK, q_k, q_lc (PtI.nm S2) (WI.cons S2 WI.nil), q_lc (PtI.nm S3) (WI.cons S3 WI.nil), q_nil, q_retP, q_seq, q_sq, q_tNot, q_tVal, q_v G0, q_v G1, q_v G2, q_v G3, q_yes, ← h5, ← h11]
  kernel_rfl
theorem fe17 (n : Nat) (h : 7 ≤ n) : callF FL κL prL n 17 = F17 := by
  cases n with
  | zero => omega
  | succ n => exact fm17 (callF FL κL prL n) (fe5 n (by omega)) (fe11 n (by omega))
def nn18 : MS := (sSqK (sDrpK (mCallP F11 (pCons g0 pNil))) (sSqK (sAsK (aTp (aCons (aNm s2) (aCons (aNm s3) aNil))) (mCallP F8 (pCons g0 pNil))) (sSqK (sRetP (p1 oTuple (p2 oCatL (p1 oList g0) (pLst (pCons (pIf (pT g1) (pTup (pCons g2 (pCons (pK (.int 0)) (pCons g3 (pCons g3 pNil))))) (pTup (pCons (pK (.int 0)) (pCons g3 (pCons g2 (pCons g2 pNil)))))) pNil))))) sSkip)))
def F18 : List D → R D := runK false 4 nn18
theorem fm18 (φ : Nat → List D → R D) (h8 : φ 8 = F8) (h11 : φ 11 = F11) : runB φ κL fd18 = F18 := by
  funext ds
  unfold F18
  rw [runK_eq]
  unfold nn18
  simp only [q_1, q_2, q_T, q_asK (PtI.tp (PlI.cons (PtI.nm S2) (PlI.cons (PtI.nm S3) PlI.nil))), q_callP, q_cons, q_drp, q_if, q_k, q_lst, q_nil, q_retP, q_sq, q_tup, q_v G0, q_v G1, q_v G2, q_v G3, ← h8, ← h11]
  kernel_rfl
theorem fe18 (n : Nat) (h : 7 ≤ n) : callF FL κL prL n 18 = F18 := by
  cases n with
  | zero => omega
  | succ n => exact fm18 (callF FL κL prL n) (fe8 n (by omega)) (fe11 n (by omega))
def nn19 : MS := (sSqK (sDrpK (mCallP F11 (pCons g0 pNil))) (sSqK (sAsK (aTp (aCons (aNm s1) (aCons (aNm s2) aNil))) (mCallP F8 (pCons g0 pNil))) (sSqK (sRetK (m1K oTuple (mLcK (liI (pSeq g0)) (aNm s3) (fun st => s3 none (id st)) (liT pYes) (mCallP F1 (pCons (p2 oMulK (p2 oIxK g3 (pK (.int 2))) (p2 oIxK g3 (pK (.int 3)))) (pCons (p2 oMulK g1 g2) pNil)))))) sSkip)))
def F19 : List D → R D := runK false 4 nn19
theorem fm19 (φ : Nat → List D → R D) (h1 : φ 1 = F1) (h8 : φ 8 = F8) (h11 : φ 11 = F11) : runB φ κL fd19 = F19 := by
  funext ds
  unfold F19
  rw [runK_eq]
  unfold nn19
  simp only [oIxK_eq, oMulK_eq, q_2, q_asK (PtI.tp (PlI.cons (PtI.nm S1) (PlI.cons (PtI.nm S2) PlI.nil))), q_callP, q_cons, q_drp, q_k, q_lcK (PtI.nm S3) (WI.cons S3 WI.nil), q_m1, q_nil, q_retK, q_seq, q_sq, q_v G0, q_v G1, q_v G2, q_v G3, q_yes, ← h1, ← h8, ← h11]
  kernel_rfl
theorem fe19 (n : Nat) (h : 7 ≤ n) : callF FL κL prL n 19 = F19 := by
  cases n with
  | zero => omega
  | succ n => exact fm19 (callF FL κL prL n) (fe1 n (by omega)) (fe8 n (by omega)) (fe11 n (by omega))
def nn20 : MS := (sSqK (sDrpK (mCallP F11 (pCons g0 pNil))) (sSqK (sAoP s3 (pLst pNil)) (sSqK (sForP (pSeq g0) (aTp (aCons (aNm s4) (aCons (aNm s5) (aCons (aNm s6) (aCons (aNm s7) aNil))))) (sSqK (sAppKC g3 s3 (mTupK (lConsK (mCallP F2 (pCons (pTup (pCons g4 (pCons (pK (.int 1)) pNil))) (pCons g1 pNil))) (lConsK (mCallP F2 (pCons (pTup (pCons g5 (pCons (pK (.int 1)) pNil))) (pCons g2 pNil))) (lConsK (mCallP F2 (pCons (pTup (pCons g6 (pCons (pK (.int 1)) pNil))) (pCons g1 pNil))) (lConsK (mCallP F2 (pCons (pTup (pCons g7 (pCons (pK (.int 1)) pNil))) (pCons g2 pNil))) (liL pNil))))))) sSkip)) (sSqK (sRetP (p1 oTuple g3)) sSkip))))
def F20 : List D → R D := runK false 8 nn20
theorem fm20 (φ : Nat → List D → R D) (h2 : φ 2 = F2) (h11 : φ 11 = F11) : runB φ κL fd20 = F20 := by
  funext ds
  unfold F20
  rw [runK_eq]
  unfold nn20
  simp only [q_1, q_aoP S3, q_appKC G3 S3, q_callP, q_cons, q_drp, q_forP (PtI.tp (PlI.cons (PtI.nm S4) (PlI.cons (PtI.nm S5) (PlI.cons (PtI.nm S6) (PlI.cons (PtI.nm S7) PlI.nil))))), q_k, q_lCons, q_lst, q_mTup, q_nil, q_retP, q_seq, q_sq, q_tup, q_v G0, q_v G1, q_v G2, q_v G3, q_v G4, q_v G5, q_v G6, q_v G7, ← h2, ← h11]
  kernel_rfl
theorem fe20 (n : Nat) (h : 7 ≤ n) : callF FL κL prL n 20 = F20 := by
  cases n with
  | zero => omega
  | succ n => exact fm20 (callF FL κL prL n) (fe2 n (by omega)) (fe11 n (by omega))
def nn21 : MS := (sSqK (sAsK (aTp (aCons (aNm s1) (aCons (aNm s2) aNil))) (mCallP F8 (pCons g0 pNil))) (sSqK (sRetK (mCallP F3 (pCons (pTup (pCons g1 (pCons (pK (.int 1)) pNil))) (pCons (pTup (pCons g2 (pCons (pK (.int 1)) pNil))) pNil)))) sSkip))
def F21 : List D → R D := runK false 3 nn21
theorem fm21 (φ : Nat → List D → R D) (h3 : φ 3 = F3) (h8 : φ 8 = F8) : runB φ κL fd21 = F21 := by
  funext ds
  unfold F21
  rw [runK_eq]
  unfold nn21
  simp only [q_asK (PtI.tp (PlI.cons (PtI.nm S1) (PlI.cons (PtI.nm S2) PlI.nil))), q_callP, q_cons, q_k, q_nil, q_retK, q_sq, q_tup, q_v G0, q_v G1, q_v G2, ← h3, ← h8]
  kernel_rfl
theorem fe21 (n : Nat) (h : 5 ≤ n) : callF FL κL prL n 21 = F21 := by
  cases n with
  | zero => omega
  | succ n => exact fm21 (callF FL κL prL n) (fe3 n (by omega)) (fe8 n (by omega))
def F22 : List D → R D := phiDraw
theorem fe22 (n : Nat) (h : 1 ≤ n) : callF FL κL prL n 22 = F22 := by
  cases n with
  | zero => omega
  | succ n => rfl
def nn23 : MS := (sSqK (sAoP s4 (pLst (pCons (pTup (pCons (pK (.int 0)) (pCons (pK (.int 0)) (pCons g1 (pCons g2 pNil))))) pNil))) (sSqK (sForK (sR1 (mCallP F22 (pCons g0 (pCons g3 pNil)))) (aNm s5) (sSqK (sAsK (aNm s7) (mCallP F22 (pCons g0 (pCons (p1 oLenK g4) pNil)))) (sSqK (sAsP (aTp (aCons (aNm s9) (aCons (aNm s10) (aCons (aNm s11) (aCons (aNm s12) aNil))))) (p2 oIxK g4 g7)) (sSqK (sAsP (aNm s8) (p2 oAddK (pSl false g4 pNo (pPart g7)) (pSl false g4 (pPart (p2 oAddK g7 (pK (.int 1)))) pNo))) (sSqK (sIfK (tAndK (tValK (m2K (oEqFK id) (mCallP F22 (pCons g0 (pCons (pK (.int 2)) pNil))) (liE (pK (.int 0))))) (liT (pT (p2 oGtK g11 (pK (.int 1)))))) (sSqK (sAsK (aNm s13) (m2K oAddK (liE (pK (.int 1))) (mCallP F22 (pCons g0 (pCons (p2 oSubK g11 (pK (.int 1))) pNil))))) (sSqK (sAoP s4 (p2 oCatL g8 (pLst (pCons (pTup (pCons g9 (pCons g10 (pCons g13 (pCons g12 pNil))))) (pCons (pTup (pCons (p2 oAddK g9 g13) (pCons g10 (pCons (p2 oSubK g11 g13) (pCons g12 pNil))))) pNil))))) sSkip)) (sSqK (sIfP (pT (p2 oGtK g12 (pK (.int 1)))) (sSqK (sAsK (aNm s13) (m2K oAddK (liE (pK (.int 1))) (mCallP F22 (pCons g0 (pCons (p2 oSubK g12 (pK (.int 1))) pNil))))) (sSqK (sAoP s4 (p2 oCatL g8 (pLst (pCons (pTup (pCons g9 (pCons g10 (pCons g11 (pCons g13 pNil))))) (pCons (pTup (pCons g9 (pCons (p2 oAddK g10 g13) (pCons g11 (pCons (p2 oSubK g12 g13) pNil))))) pNil))))) sSkip)) sSkip) sSkip)) sSkip))))) (sSqK (sAoP s6 (pLst pNil)) (sSqK (whK (liT (pT (p2 oGtK (p1 oLenK g4) (pK (.int 0))))) (sSqK (sAppKC g6 s6 (mPopAtK g4 s4 (mCallP F22 (pCons g0 (pCons (p1 oLenK g4) pNil))))) sSkip) 1000) (sSqK (sRetP (p1 oTuple g6)) sSkip)))))
def F23 : List D → R D := runK false 14 nn23
theorem fm23 (φ : Nat → List D → R D) (h22 : φ 22 = F22) : runB φ κL fd23 = F23 := by
  funext ds
  unfold F23
  rw [runK_eq]
  unfold nn23
  simp only [oAddK_eq, oEqFK_eq, oGtK_eq, oIxK_eq, oLenK_eq, oSubK_eq, q_1, q_2, q_T, q_aoP S4, q_aoP S6, q_appKC G6 S6, q_asK (PtI.nm S13), q_asK (PtI.nm S7), q_asP (PtI.nm S8), q_asP (PtI.tp (PlI.cons (PtI.nm S9) (PlI.cons (PtI.nm S10) (PlI.cons (PtI.nm S11) (PlI.cons (PtI.nm S12) PlI.nil))))), q_callP, q_cons, q_forK (PtI.nm S5), q_ifK, q_ifP, q_k, q_lst, q_m2, q_nil, q_no, q_part, q_popAt G4 S4, q_retP, q_sl, q_sq, q_tAnd, q_tVal, q_tup, q_v G0, q_v G1, q_v G10, q_v G11, q_v G12, q_v G13, q_v G2, q_v G3, q_v G4, q_v G6, q_v G7, q_v G8, q_v G9, q_wh, ← h22]
  kernel_rfl
theorem fe23 (n : Nat) (h : 2 ≤ n) : callF FL κL prL n 23 = F23 := by
  cases n with
  | zero => omega
  | succ n => exact fm23 (callF FL κL prL n) (fe22 n (by omega))
def nn24 : MS := (sSqK (sPar2K s2 s3 (liE (p1 oAbs g0)) (liE (p1 oAbs g1))) (sSqK (whK (liT (pT (p2 (oEqFK (fun b => !b)) g3 (pK (.int 0))))) (sSqK (sPar2K s2 s3 (liE g3) (liE (p2 oModK (p1 oInt g2) g3))) sSkip) 1000) (sSqK (sAsP (aNm s2) (pIf (pT (p2 oGtK g1 (pK (.int 0)))) g2 (p2 oSubK (pK (.int 0)) g2))) (sSqK (sRetP (pTup (pCons (p2 oDivK g0 g2) (pCons (p2 oDivK g1 g2) pNil)))) sSkip))))
def F24 : List D → R D := runK false 4 nn24
theorem fm24 (φ : Nat → List D → R D)  : runB φ κL fd24 = F24 := by
  funext ds
  unfold F24
  rw [runK_eq]
  unfold nn24
  simp only [oDivK_eq, oEqFK_eq, oGtK_eq, oModK_eq, oSubK_eq, q_1, q_2, q_T, q_asP (PtI.nm S2), q_cons, q_if, q_k, q_nil, q_par2 S2 S3, q_retP, q_sq, q_tup, q_v G0, q_v G1, q_v G2, q_v G3, q_wh]
  kernel_rfl
theorem fe24 (n : Nat) (h : 1 ≤ n) : callF FL κL prL n 24 = F24 := by
  cases n with
  | zero => omega
  | succ n => exact fm24 (callF FL κL prL n) 
end
def lawC : C := (.sq (.ifs (.cmp .ne (.sorted (.fn 16 (.cons (.tup (.cons (.tup (.cons (.k (.int 0)) (.cons (.k (.int 0)) (.cons (.k (.int 1)) (.cons (.k (.int 1)) .nil))))) (.cons (.tup (.cons (.k (.int 1)) (.cons (.k (.int 0)) (.cons (.k (.int 2)) (.cons (.k (.int 1)) .nil))))) .nil))) .nil))) (.lst (.cons (.tup (.cons (.k (.int 0)) (.cons (.k (.int 0)) (.cons (.k (.int 1)) (.cons (.k (.int 1)) .nil))))) (.cons (.tup (.cons (.k (.int 0)) (.cons (.k (.int 1)) (.cons (.k (.int 1)) (.cons (.k (.int 2)) .nil))))) .nil)))) (.sq (.ret (.k (.bl false))) .skip) .skip) (.sq (.ifs (.cmp .ne (.fn 21 (.cons (.tup (.cons (.tup (.cons (.k (.int 0)) (.cons (.k (.int 0)) (.cons (.k (.int 4)) (.cons (.k (.int 2)) .nil))))) .nil)) .nil)) (.tup (.cons (.k (.int 2)) (.cons (.k (.int 1)) .nil)))) (.sq (.ret (.k (.bl false))) .skip) .skip) (.fgt [1] (.sq (.for_ (.r1 (.k (.int 5))) (.nm 2) (.fgt [1] (.sq (.asg (.tp (.cons (.nm 12) (.cons (.nm 13) .nil))) (.tup (.cons (.bin .add (.k (.int 1)) (.fn 22 (.cons (.v 1) (.cons (.k (.int 9)) .nil)))) (.cons (.bin .add (.k (.int 1)) (.fn 22 (.cons (.v 1) (.cons (.k (.int 9)) .nil)))) .nil)))) (.sq (.asg (.nm 3) (.fn 23 (.cons (.v 1) (.cons (.v 12) (.cons (.v 13) (.cons (.k (.int 7)) .nil)))))) (.sq (.asg (.nm 4) (.fn 16 (.cons (.v 3) .nil))) (.sq (.ifs (.cmp .ne (.sorted (.v 4)) (.sorted (.lc [22, 23, 24, 25] (.tp (.cons (.nm 22) (.cons (.nm 23) (.cons (.nm 24) (.cons (.nm 25) .nil))))) (.seq (.v 3)) .yes (.tup (.cons (.v 23) (.cons (.v 22) (.cons (.v 25) (.cons (.v 24) .nil)))))))) (.sq (.ret (.k (.bl false))) .skip) .skip) (.sq (.asg (.nm 5) (.fn 15 (.cons (.v 3) .nil))) (.sq (.ifs (.cmp .ne (.sorted (.v 5)) (.sorted (.lc [22, 23, 24, 25] (.tp (.cons (.nm 22) (.cons (.nm 23) (.cons (.nm 24) (.cons (.nm 25) .nil))))) (.seq (.v 3)) .yes (.tup (.cons (.bin .sub (.bin .sub (.v 12) (.v 22)) (.v 24)) (.cons (.v 23) (.cons (.v 24) (.cons (.v 25) .nil)))))))) (.sq (.ret (.k (.bl false))) .skip) .skip) (.sq (.ifs (.cmp .ne (.sorted (.fn 16 (.cons (.v 4) .nil))) (.sorted (.v 3))) (.sq (.ret (.k (.bl false))) .skip) .skip) (.sq (.ifs (.cmp .ne (.sorted (.fn 15 (.cons (.v 5) .nil))) (.sorted (.v 3))) (.sq (.ret (.k (.bl false))) .skip) .skip) (.sq (.ifs (.cmp .ne (.fn 21 (.cons (.v 3) .nil)) (.fn 24 (.cons (.v 12) (.cons (.v 13) .nil)))) (.sq (.ret (.k (.bl false))) .skip) .skip) (.sq (.ifs (.cmp .ne (.fn 21 (.cons (.v 4) .nil)) (.fn 24 (.cons (.v 13) (.cons (.v 12) .nil)))) (.sq (.ret (.k (.bl false))) .skip) .skip) (.sq (.ifs (.cmp .ne (.sorted (.fn 19 (.cons (.v 4) .nil))) (.sorted (.fn 19 (.cons (.v 3) .nil)))) (.sq (.ret (.k (.bl false))) .skip) .skip) (.sq (.asg (.nm 6) (.bin .add (.k (.int 1)) (.fn 22 (.cons (.v 1) (.cons (.k (.int 6)) .nil))))) (.sq (.asg (.nm 7) (.fn 17 (.cons (.v 3) (.cons (.v 6) .nil)))) (.sq (.ifs (.cmp .ne (.sorted (.v 7)) (.sorted (.lc [22, 23, 24, 25] (.tp (.cons (.nm 22) (.cons (.nm 23) (.cons (.nm 24) (.cons (.nm 25) .nil))))) (.seq (.v 3)) .yes (.tup (.cons (.bin .mul (.v 22) (.v 6)) (.cons (.bin .mul (.v 23) (.v 6)) (.cons (.bin .mul (.v 24) (.v 6)) (.cons (.bin .mul (.v 25) (.v 6)) .nil)))))))) (.sq (.ret (.k (.bl false))) .skip) .skip) (.sq (.ifs (.cmp .ne (.fn 21 (.cons (.v 7) .nil)) (.fn 21 (.cons (.v 3) .nil))) (.sq (.ret (.k (.bl false))) .skip) .skip) (.sq (.ifs (.cmp .ne (.fn 12 (.cons (.v 7) .nil)) (.fn 12 (.cons (.v 3) .nil))) (.sq (.ret (.k (.bl false))) .skip) .skip) (.sq (.ifs (.cmp .ne (.fn 13 (.cons (.v 7) .nil)) (.fn 13 (.cons (.v 3) .nil))) (.sq (.ret (.k (.bl false))) .skip) .skip) (.sq (.asg (.tp (.cons (.nm 14) (.cons (.nm 15) .nil))) (.tup (.cons (.bin .add (.k (.int 1)) (.fn 22 (.cons (.v 1) (.cons (.k (.int 4)) .nil)))) (.cons (.bin .add (.k (.int 1)) (.fn 22 (.cons (.v 1) (.cons (.k (.int 4)) .nil)))) .nil)))) (.sq (.asg (.nm 8) (.sorted (.lc [22, 23, 24, 25] (.tp (.cons (.nm 22) (.cons (.nm 23) (.cons (.nm 24) (.cons (.nm 25) .nil))))) (.seq (.v 3)) .yes (.tup (.cons (.bin .mul (.v 22) (.v 14)) (.cons (.bin .mul (.v 23) (.v 15)) (.cons (.bin .mul (.v 24) (.v 14)) (.cons (.bin .mul (.v 25) (.v 15)) .nil)))))))) (.sq (.asg (.nm 9) (.lc [21] (.nm 21) (.seq (.v 8)) .yes (.c1 .tuple (.lc [26] (.nm 26) (.seq (.v 21)) .yes (.tup (.cons (.v 26) (.cons (.k (.int 1)) .nil))))))) (.sq (.ifs (.cmp .ne (.sorted (.fn 20 (.cons (.v 3) (.cons (.tup (.cons (.v 14) (.cons (.k (.int 1)) .nil))) (.cons (.tup (.cons (.v 15) (.cons (.k (.int 1)) .nil))) .nil))))) (.sorted (.v 9))) (.sq (.ret (.k (.bl false))) .skip) .skip) (.sq (.asg (.nm 10) (.lc [21] (.nm 21) (.seq (.v 3)) .yes (.c1 .tuple (.lc [26] (.nm 26) (.seq (.v 21)) .yes (.tup (.cons (.v 26) (.cons (.k (.int 1)) .nil))))))) (.sq (.ifs (.cmp .ne (.sorted (.fn 20 (.cons (.v 7) (.cons (.tup (.cons (.k (.int 1)) (.cons (.v 6) .nil))) (.cons (.tup (.cons (.k (.int 1)) (.cons (.v 6) .nil))) .nil))))) (.sorted (.v 10))) (.sq (.ret (.k (.bl false))) .skip) .skip) (.sq (.for_ (.seq (.tup (.cons (.k (.bl true)) (.cons (.k (.bl false)) .nil)))) (.nm 11) (.sq (.asg (.nm 16) (.fn 18 (.cons (.v 3) (.cons (.v 11) .nil)))) (.sq (.asg (.nm 17) (.ifx (.v 11) (.tup (.cons (.v 12) (.cons (.k (.int 0)) (.cons (.v 13) (.cons (.v 13) .nil))))) (.tup (.cons (.k (.int 0)) (.cons (.v 13) (.cons (.v 12) (.cons (.v 12) .nil))))))) (.sq (.ifs (.cmp .ne (.sorted (.v 16)) (.sorted (.bin .add (.v 3) (.tup (.cons (.v 17) .nil))))) (.sq (.ret (.k (.bl false))) .skip) .skip) (.sq (.asg (.nm 18) (.ifx (.v 11) (.v 12) (.v 13))) (.sq (.ifs (.cmp .notIn (.v 18) (.list (.ix (.fn 14 (.cons (.v 16) .nil)) (.ifx (.v 11) (.k (.int 1)) (.k (.int 0)))))) (.sq (.ret (.k (.bl false))) .skip) .skip) .skip)))))) (.sq (.asg (.tp (.cons (.nm 19) (.cons (.nm 20) .nil))) (.lc [21] (.nm 21) (.seq (.fn 14 (.cons (.v 3) .nil))) .yes (.list (.v 21)))) (.sq (.ifs (.cmp .ne (.v 19) (.list (.ix (.fn 14 (.cons (.v 4) .nil)) (.k (.int 1))))) (.sq (.ret (.k (.bl false))) .skip) .skip) (.sq (.ifs (.cmp .ne (.v 20) (.list (.ix (.fn 14 (.cons (.v 4) .nil)) (.k (.int 0))))) (.sq (.ret (.k (.bl false))) .skip) .skip) .skip))))))))))))))))))))))))))))) (.fgt [1] (.sq (.ret (.k (.bl true))) .skip))))))
def lawG : Gm := ⟨["script", "hand", "turn", "cut", "there", "other", "by", "wider", "due", "wide_now", "whole", "at_right", "wide", "high", "across", "down", "more", "fresh", "place", "heights_now", "places_now", "row", "x", "y", "w", "h", "one"], fun i => [].contains i, consL, FL.map fun g => (g.nm, g.ar, g.ro)⟩
theorem cL : chk lawG lawC (defScope (topS 38)) (fun _ => true) (.b false (defBody (topS 38)).tail) = true := by decide +kernel
noncomputable def kPre_1 : MS := sSqK (sIfK (tValK (m2K (oEqFK (fun b => !b)) (mCallP F21 (pCons (pTup (pCons (pTup (pCons (pK (.int 0)) (pCons (pK (.int 0)) (pCons (pK (.int 4)) (pCons (pK (.int 2)) pNil))))) pNil)) pNil)) (liE (pTup (pCons (pK (.int 2)) (pCons (pK (.int 1)) pNil)))))) (sSqK (sRetP (pK (.bl false))) sSkip) sSkip) sSkip
noncomputable def kPre : MS := sSqK (sIfK (tValK (m2K (oEqFK (fun b => !b)) (m1K oSortK (mCallP F16 (pCons (pTup (pCons (pTup (pCons (pK (.int 0)) (pCons (pK (.int 0)) (pCons (pK (.int 1)) (pCons (pK (.int 1)) pNil))))) (pCons (pTup (pCons (pK (.int 1)) (pCons (pK (.int 0)) (pCons (pK (.int 2)) (pCons (pK (.int 1)) pNil))))) pNil))) pNil))) (liE (pLst (pCons (pTup (pCons (pK (.int 0)) (pCons (pK (.int 0)) (pCons (pK (.int 1)) (pCons (pK (.int 1)) pNil))))) (pCons (pTup (pCons (pK (.int 0)) (pCons (pK (.int 1)) (pCons (pK (.int 1)) (pCons (pK (.int 2)) pNil))))) pNil)))))) (sSqK (sRetP (pK (.bl false))) sSkip) sSkip) kPre_1
noncomputable def kE : MS := sSqK (sRetP (pK (.bl true))) sSkip
noncomputable def kB_26 : MS := sSqK (sIfK (tValK (m2K (oEqFK (fun b => !b)) (liE g20) (m1K oList (m2K oIxK (mCallP F14 (pCons g4 pNil)) (liE (pK (.int 0))))))) (sSqK (sRetP (pK (.bl false))) sSkip) sSkip) sSkip
noncomputable def kB_25 : MS := sSqK (sIfK (tValK (m2K (oEqFK (fun b => !b)) (liE g19) (m1K oList (m2K oIxK (mCallP F14 (pCons g4 pNil)) (liE (pK (.int 1))))))) (sSqK (sRetP (pK (.bl false))) sSkip) sSkip) kB_26
noncomputable def kB_24 : MS := sSqK (sAsK (aTp (aCons (aNm s19) (aCons (aNm s20) aNil))) (mLcK (sSeq (mCallP F14 (pCons g3 pNil))) (aNm s21) (fun st => s21 none (id st)) (liT pYes) (liE (p1 oList g21)))) kB_25
noncomputable def kB_23 : MS := sSqK (sForP (pSeq (pTup (pCons (pK (.bl true)) (pCons (pK (.bl false)) pNil)))) (aNm s11) (sSqK (sAsK (aNm s16) (mCallP F18 (pCons g3 (pCons g11 pNil)))) (sSqK (sAsP (aNm s17) (pIf (pT g11) (pTup (pCons g12 (pCons (pK (.int 0)) (pCons g13 (pCons g13 pNil))))) (pTup (pCons (pK (.int 0)) (pCons g13 (pCons g12 (pCons g12 pNil))))))) (sSqK (sIfP (pT (p2 (oEqFK (fun b => !b)) (p1 oSortK g16) (p1 oSortK (p2 oAddK g3 (pTup (pCons g17 pNil)))))) (sSqK (sRetP (pK (.bl false))) sSkip) sSkip) (sSqK (sAsP (aNm s18) (pIf (pT g11) g12 g13)) (sSqK (sIfK (tValK (m2K (oInK (fun b => !b)) (liE g18) (m1K oList (m2K oIxK (mCallP F14 (pCons g16 pNil)) (liE (pIf (pT g11) (pK (.int 1)) (pK (.int 0)))))))) (sSqK (sRetP (pK (.bl false))) sSkip) sSkip) sSkip)))))) kB_24
noncomputable def kB_22 : MS := sSqK (sIfK (tValK (m2K (oEqFK (fun b => !b)) (m1K oSortK (mCallP F20 (pCons g7 (pCons (pTup (pCons (pK (.int 1)) (pCons g6 pNil))) (pCons (pTup (pCons (pK (.int 1)) (pCons g6 pNil))) pNil))))) (liE (p1 oSortK g10)))) (sSqK (sRetP (pK (.bl false))) sSkip) sSkip) kB_23
noncomputable def kB_21 : MS := sSqK (sAsP (aNm s10) (pLc (pSeq g3) (aNm s21) (fun st => s21 none (id st)) pYes (p1 oTuple (pLc (pSeq g21) (aNm s26) (fun st => s26 none (id st)) pYes (pTup (pCons g26 (pCons (pK (.int 1)) pNil))))))) kB_22
noncomputable def kB_20 : MS := sSqK (sIfK (tValK (m2K (oEqFK (fun b => !b)) (m1K oSortK (mCallP F20 (pCons g3 (pCons (pTup (pCons g14 (pCons (pK (.int 1)) pNil))) (pCons (pTup (pCons g15 (pCons (pK (.int 1)) pNil))) pNil))))) (liE (p1 oSortK g9)))) (sSqK (sRetP (pK (.bl false))) sSkip) sSkip) kB_21
noncomputable def kB_19 : MS := sSqK (sAsP (aNm s9) (pLc (pSeq g8) (aNm s21) (fun st => s21 none (id st)) pYes (p1 oTuple (pLc (pSeq g21) (aNm s26) (fun st => s26 none (id st)) pYes (pTup (pCons g26 (pCons (pK (.int 1)) pNil))))))) kB_20
noncomputable def kB_18 : MS := sSqK (sAsP (aNm s8) (p1 oSortK (pLc (pSeq g3) (aTp (aCons (aNm s22) (aCons (aNm s23) (aCons (aNm s24) (aCons (aNm s25) aNil))))) (fun st => s22 none ((fun st => s23 none ((fun st => s24 none ((fun st => s25 none (id st)) st)) st)) st)) pYes (pTup (pCons (p2 oMulK g22 g14) (pCons (p2 oMulK g23 g15) (pCons (p2 oMulK g24 g14) (pCons (p2 oMulK g25 g15) pNil)))))))) kB_19
noncomputable def kB_17 : MS := sSqK (sAsK (aTp (aCons (aNm s14) (aCons (aNm s15) aNil))) (mTupK (lConsK (m2K oAddK (liE (pK (.int 1))) (mCallP F22 (pCons g1 (pCons (pK (.int 4)) pNil)))) (lConsK (m2K oAddK (liE (pK (.int 1))) (mCallP F22 (pCons g1 (pCons (pK (.int 4)) pNil)))) (liL pNil))))) kB_18
noncomputable def kB_16 : MS := sSqK (sIfK (tValK (m2K (oEqFK (fun b => !b)) (mCallP F13 (pCons g7 pNil)) (mCallP F13 (pCons g3 pNil)))) (sSqK (sRetP (pK (.bl false))) sSkip) sSkip) kB_17
noncomputable def kB_15 : MS := sSqK (sIfK (tValK (m2K (oEqFK (fun b => !b)) (mCallP F12 (pCons g7 pNil)) (mCallP F12 (pCons g3 pNil)))) (sSqK (sRetP (pK (.bl false))) sSkip) sSkip) kB_16
noncomputable def kB_14 : MS := sSqK (sIfK (tValK (m2K (oEqFK (fun b => !b)) (mCallP F21 (pCons g7 pNil)) (mCallP F21 (pCons g3 pNil)))) (sSqK (sRetP (pK (.bl false))) sSkip) sSkip) kB_15
noncomputable def kB_13 : MS := sSqK (sIfP (pT (p2 (oEqFK (fun b => !b)) (p1 oSortK g7) (p1 oSortK (pLc (pSeq g3) (aTp (aCons (aNm s22) (aCons (aNm s23) (aCons (aNm s24) (aCons (aNm s25) aNil))))) (fun st => s22 none ((fun st => s23 none ((fun st => s24 none ((fun st => s25 none (id st)) st)) st)) st)) pYes (pTup (pCons (p2 oMulK g22 g6) (pCons (p2 oMulK g23 g6) (pCons (p2 oMulK g24 g6) (pCons (p2 oMulK g25 g6) pNil))))))))) (sSqK (sRetP (pK (.bl false))) sSkip) sSkip) kB_14
noncomputable def kB_12 : MS := sSqK (sAsK (aNm s7) (mCallP F17 (pCons g3 (pCons g6 pNil)))) kB_13
noncomputable def kB_11 : MS := sSqK (sAsK (aNm s6) (m2K oAddK (liE (pK (.int 1))) (mCallP F22 (pCons g1 (pCons (pK (.int 6)) pNil))))) kB_12
noncomputable def kB_10 : MS := sSqK (sIfK (tValK (m2K (oEqFK (fun b => !b)) (m1K oSortK (mCallP F19 (pCons g4 pNil))) (m1K oSortK (mCallP F19 (pCons g3 pNil))))) (sSqK (sRetP (pK (.bl false))) sSkip) sSkip) kB_11
noncomputable def kB_9 : MS := sSqK (sIfK (tValK (m2K (oEqFK (fun b => !b)) (mCallP F21 (pCons g4 pNil)) (mCallP F24 (pCons g13 (pCons g12 pNil))))) (sSqK (sRetP (pK (.bl false))) sSkip) sSkip) kB_10
noncomputable def kB_8 : MS := sSqK (sIfK (tValK (m2K (oEqFK (fun b => !b)) (mCallP F21 (pCons g3 pNil)) (mCallP F24 (pCons g12 (pCons g13 pNil))))) (sSqK (sRetP (pK (.bl false))) sSkip) sSkip) kB_9
noncomputable def kB_7 : MS := sSqK (sIfK (tValK (m2K (oEqFK (fun b => !b)) (m1K oSortK (mCallP F15 (pCons g5 pNil))) (liE (p1 oSortK g3)))) (sSqK (sRetP (pK (.bl false))) sSkip) sSkip) kB_8
noncomputable def kB_6 : MS := sSqK (sIfK (tValK (m2K (oEqFK (fun b => !b)) (m1K oSortK (mCallP F16 (pCons g4 pNil))) (liE (p1 oSortK g3)))) (sSqK (sRetP (pK (.bl false))) sSkip) sSkip) kB_7
noncomputable def kB_5 : MS := sSqK (sIfP (pT (p2 (oEqFK (fun b => !b)) (p1 oSortK g5) (p1 oSortK (pLc (pSeq g3) (aTp (aCons (aNm s22) (aCons (aNm s23) (aCons (aNm s24) (aCons (aNm s25) aNil))))) (fun st => s22 none ((fun st => s23 none ((fun st => s24 none ((fun st => s25 none (id st)) st)) st)) st)) pYes (pTup (pCons (p2 oSubK (p2 oSubK g12 g22) g24) (pCons g23 (pCons g24 (pCons g25 pNil))))))))) (sSqK (sRetP (pK (.bl false))) sSkip) sSkip) kB_6
noncomputable def kB_4 : MS := sSqK (sAsK (aNm s5) (mCallP F15 (pCons g3 pNil))) kB_5
noncomputable def kB_3 : MS := sSqK (sIfP (pT (p2 (oEqFK (fun b => !b)) (p1 oSortK g4) (p1 oSortK (pLc (pSeq g3) (aTp (aCons (aNm s22) (aCons (aNm s23) (aCons (aNm s24) (aCons (aNm s25) aNil))))) (fun st => s22 none ((fun st => s23 none ((fun st => s24 none ((fun st => s25 none (id st)) st)) st)) st)) pYes (pTup (pCons g23 (pCons g22 (pCons g25 (pCons g24 pNil))))))))) (sSqK (sRetP (pK (.bl false))) sSkip) sSkip) kB_4
noncomputable def kB_2 : MS := sSqK (sAsK (aNm s4) (mCallP F16 (pCons g3 pNil))) kB_3
noncomputable def kB_1 : MS := sSqK (sAsK (aNm s3) (mCallP F23 (pCons g1 (pCons g12 (pCons g13 (pCons (pK (.int 7)) pNil)))))) kB_2
noncomputable def kB : MS := sSqK (sAsK (aTp (aCons (aNm s12) (aCons (aNm s13) aNil))) (mTupK (lConsK (m2K oAddK (liE (pK (.int 1))) (mCallP F22 (pCons g1 (pCons (pK (.int 9)) pNil)))) (lConsK (m2K oAddK (liE (pK (.int 1))) (mCallP F22 (pCons g1 (pCons (pK (.int 9)) pNil)))) (liL pNil))))) kB_1
theorem eLaw (φ : Nat → List D → R D) (h12 : φ 12 = F12) (h13 : φ 13 = F13) (h14 : φ 14 = F14) (h15 : φ 15 = F15) (h16 : φ 16 = F16) (h17 : φ 17 = F17) (h18 : φ 18 = F18) (h19 : φ 19 = F19) (h20 : φ 20 = F20) (h21 : φ 21 = F21) (h22 : φ 22 = F22) (h23 : φ 23 = F23) (h24 : φ 24 = F24) : (den φ κL lawC).M = sSq kPre (sFgt [1] (sSq (sFor (sR1 (mK (.int 5))) (.nm 2) (sFgt [1] kB)) (sFgt [1] kE))) := by
  unfold kB kB_1 kB_2 kB_3 kB_4 kB_5 kB_6 kB_7 kB_8 kB_9 kB_10 kB_11 kB_12 kB_13 kB_14 kB_15 kB_16 kB_17 kB_18 kB_19 kB_20 kB_21 kB_22 kB_23 kB_24 kB_25 kB_26 kE kPre kPre_1
  simp only [oAddK_eq, oEqFK_eq, oInK_eq, oIxK_eq, oMulK_eq, oSortK_eq, oSubK_eq, q_1, q_2, q_T, q_asK (PtI.nm S16), q_asK (PtI.nm S3), q_asK (PtI.nm S4), q_asK (PtI.nm S5), q_asK (PtI.nm S6), q_asK (PtI.nm S7), q_asK (PtI.tp (PlI.cons (PtI.nm S12) (PlI.cons (PtI.nm S13) PlI.nil))), q_asK (PtI.tp (PlI.cons (PtI.nm S14) (PlI.cons (PtI.nm S15) PlI.nil))), q_asK (PtI.tp (PlI.cons (PtI.nm S19) (PlI.cons (PtI.nm S20) PlI.nil))), q_asP (PtI.nm S10), q_asP (PtI.nm S17), q_asP (PtI.nm S18), q_asP (PtI.nm S8), q_asP (PtI.nm S9), q_callP, q_cons, q_forP (PtI.nm S11), q_if, q_ifK, q_ifP, q_k, q_lCons, q_lc (PtI.nm S21) (WI.cons S21 WI.nil), q_lc (PtI.nm S26) (WI.cons S26 WI.nil), q_lc (PtI.tp (PlI.cons (PtI.nm S22) (PlI.cons (PtI.nm S23) (PlI.cons (PtI.nm S24) (PlI.cons (PtI.nm S25) PlI.nil))))) (WI.cons S22 (WI.cons S23 (WI.cons S24 (WI.cons S25 WI.nil)))), q_lcK (PtI.nm S21) (WI.cons S21 WI.nil), q_lst, q_m1, q_m2, q_mTup, q_nil, q_retP, q_seq, q_sq, q_tVal, q_tup, q_v G1, q_v G10, q_v G11, q_v G12, q_v G13, q_v G14, q_v G15, q_v G16, q_v G17, q_v G18, q_v G19, q_v G20, q_v G21, q_v G22, q_v G23, q_v G24, q_v G25, q_v G26, q_v G3, q_v G4, q_v G5, q_v G6, q_v G7, q_v G8, q_v G9, q_yes, ← h12, ← h13, ← h14, ← h15, ← h16, ← h17, ← h18, ← h19, ← h20, ← h21, ← h22, ← h23, ← h24, sq_assoc, sq_skip]
  kernel_rfl
end EV
set_option maxHeartbeats 0
namespace EV
open PySem PySem.Spec PyProof.Rows L2
/-! rectangles -/
structure R4 where
  x : Int
  y : Int
  w : Int
  h : Int
def R4.d (r : R4) : D := .tup [.int r.x, .int r.y, .int r.w, .int r.h]
abbrev cD (c : List R4) : D := .tup (c.map R4.d)
structure InB (W H : Int) (r : R4) : Prop where
  x0 : 0 ≤ r.x
  y0 : 0 ≤ r.y
  w1 : 1 ≤ r.w
  h1 : 1 ≤ r.h
  xw : r.x + r.w ≤ W
  yh : r.y + r.h ≤ H
noncomputable def meet (a b : R4) : Bool := bK (bK (decide (a.x < b.x + b.w)) (decide (b.x < a.x + a.w)) false) (bK (decide (a.y < b.y + b.h)) (decide (b.y < a.y + a.h)) false) false
def area (r : R4) : Int := r.w * r.h
structure Cut (W H : Int) (c : List R4) : Prop where
  len0 : 1 ≤ c.length
  len1 : c.length ≤ 24
  W2 : W ≤ 200
  H2 : H ≤ 200
  inb : ∀ r ∈ c, InB W H r
  dj : c.Pairwise fun a b => meet b a = false
  ar : sumI (c.map area) = W * H
  mx : ∃ r ∈ c, r.x + r.w = W
  my : ∃ r ∈ c, r.y + r.h = H
  nx : ∃ r ∈ c, r.x = 0
  ny : ∃ r ∈ c, r.y = 0
/-! the usual words -/
theorem t6t (xs : List D) : F6 [.tup xs] = .ok (.bl true) := rfl
theorem t4i (i : Int) : F4 [.int i] = .ok (.bl true) := rfl
theorem t5 (i lo hi : Int) : F5 [.int i, .int lo, .int hi] = .ok (.bl (bK (decide (lo ≤ i)) (decide (i ≤ hi)) false)) := by
  simp only [F5, nn5, runK, sSqK, sIfK, sIfP, tOrK, tAndK, tNotK, tValK, liE, liT, liL, liI, liO, pNotT, pT, p1, p2, pK, pCons, pNil, pYes, pSeq, pAndE, pOrE, pNotE, pAndT, pOrT, pChain, pIf, pTup, pLst, pLc, pDic, pR1, pR2, sRetP, sRetK, sAsP, sAsK, sAoP, sAoK, sDrpK, sPar2K, sPar3K, sForP, sForK, sAppC, mAndK, mOrK, mNotK, mIfK, lConsK, mTupK, mLstK, mMK, m1K, m2K, mLcK, mCallP, mCallK, in_nil, in_cons, re_zero, re_succ, bk_ok, bk_dr, opK_some, opK_none, ooK_some, ooK_none, bK_t, bK_f, hd_cons, tl_cons, s0_cons, st_cons, fl_nx, fl_rt, fl_bk, fl_ct, rt_rt, rt_nx, dB_bl, dI_int, sq_tup, sq_lst, at_tup, al_nil, al_cons, nm_set, isi_tup_t, nh_int, nh_tup, nh_lst, nh_bl, nh_all_nil, nh_all_cons, ln_nil, ln_cons, lc_nil, lc_cons, lk_nil, lk_cons, fo_nil, fo_cons, all_l, any_l, allB_nil, anyB_nil, allB_cons, anyB_cons, ix_t0, ix_l0, ix_l1, ix_t1, ix_t2, ix_t3, pSl, pNo, pPart, pEnum, skip_nx, seq_k, fclk_eq, fck_eq, len_t, len_l, eq_i, ge_i, le_i, lt_i, gt_i, add_i, sub_i, int_i, chl, chle, id_eq, ble_ok, Nat.reduceAdd, List.length_cons, List.length_nil, decide_true, decide_false, Bool.not_true, Bool.not_false, Nat.zero_add, Nat.reduceLeDiff, Int.cast_ofNat_Int, g0, s0, g1, s1, g2, s2, g3, s3, g4, s4, g5, s5, g6, s6, g7, s7, g8, s8, g9, s9, g10, s10, g11, s11, g12, s12, g13, s13, g14, s14, g15, s15, g16, s16, g17, s17, g18, s18, g19, s19, g20, s20, g21, s21, g22, s22, g23, s23, g24, s24, g25, s25, g26, s26, g27, s27, g28, s28, g29, s29, g30, s30, g31, s31, g32, s32, g33, s33, g34, s34, g35, s35, g36, s36, g37, s37, g38, s38, g39, s39, t4i]
  cases decide (lo ≤ i) <;> rfl
theorem t5t {i lo hi : Int} (h : lo ≤ i) (h2 : i ≤ hi) : F5 [.int i, .int lo, .int hi] = .ok (.bl true) := by
  rw [t5, decide_eq_true h, decide_eq_true h2]
  rfl
theorem forK_ok {A : AT} {b : MS} {I : AS → Prop} (ds : List D) (st : AS) (h : ∀ d ∈ ds, ∀ st, I st → ∃ st1, A d st = some st1 ∧ ∃ st2, b st1 = .ok (.nx st2) ∧ I st2) (hi : I st) : ∃ st2, forK A b ds st = .ok (.nx st2) ∧ I st2 :=
  forK_fold (α := Unit) (I := fun _ => I) (f := fun a _ => a) ds () st (fun d hd _ st hst => by
    obtain ⟨st1, h1, st2, h2, h3⟩ := h d hd st hst
    exact ⟨st1, h1, st2, .inl h2, h3⟩) hi
theorem enumK_get : ∀ (xs : List D) (k : Nat) (d : D), d ∈ enumK xs (k : Int) → ∃ (i : Nat) (x : D), xs[i]? = some x ∧ d = .tup [.int ((k + i : Nat) : Int), x]
  | [], k, d, h => nomatch h
  | x :: r, k, d, h => by
    have h : d ∈ fcI (k : Int) (fun i => D.tup [.int i, x] :: enumK r (i + 1)) := h
    rw [fcI_eq] at h
    rcases List.mem_cons.mp h with q | q
    · exact ⟨0, x, rfl, q⟩
    · rw [show (k : Int) + 1 = ((k + 1 : Nat) : Int) by omega] at q
      obtain ⟨i, y, h1, h2⟩ := enumK_get r (k + 1) d q
      exact ⟨i + 1, y, h1, by rw [h2]; congr 3; omega⟩
theorem map_get {α β : Type} {f : α → β} {l : List α} {i : Nat} {y : β} (h : (l.map f)[i]? = some y) : ∃ x, l[i]? = some x ∧ y = f x := by
  rw [List.getElem?_map] at h
  cases e : l[i]? with
  | none => rw [e] at h; cases h
  | some x => rw [e] at h; cases h; exact ⟨x, rfl, rfl⟩
/-- a part that is told right: four numbers from 0 to 200, wide and high -/
structure Pt (r : R4) : Prop where
  x0 : 0 ≤ r.x
  x2 : r.x ≤ 200
  y0 : 0 ≤ r.y
  y2 : r.y ≤ 200
  w1 : 1 ≤ r.w
  w2 : r.w ≤ 200
  h1 : 1 ≤ r.h
  h2 : r.h ≤ 200
theorem InB.pt {W H : Int} {r : R4} (b : InB W H r) (h1 : W ≤ 200) (h2 : H ≤ 200) : Pt r := by
  obtain ⟨a, b, c, d, e, f⟩ := b
  exact ⟨a, by omega, b, by omega, c, by omega, d, by omega⟩
theorem t7 {c : List R4} (h0 : 1 ≤ c.length) (h1 : c.length ≤ 24) (hp : ∀ r ∈ c, Pt r) : F7 [cD c] = .ok .non := by
  obtain ⟨st2, e, i2⟩ := forK_ok (A := aTp (aCons (aNm s1) (aCons (aNm s2) aNil))) (b := (sSqK (sIfK (tOrK (tNotK (tValK (mCallP F6 (pCons g2 pNil)))) (tOrK (liT (pT (p2 (oEqFK (fun b => !b)) (p1 oLenK g2) (pK (.int 4))))) (tNotK (tValK (m1K oAllK (mLcK (liI (pSeq g2)) (aNm s3) (fun st => s3 none (id st)) (liT pYes) (mCallP F5 (pCons g3 (pCons (pK (.int 0)) (pCons (pK (.int 200)) pNil)))))))))) (sSqK sNev sSkip) sSkip) (sSqK (sIfP (pOrT (pT (p2 (oEqFK id) (p2 oIxK g2 (pK (.int 2))) (pK (.int 0)))) (pT (p2 (oEqFK id) (p2 oIxK g2 (pK (.int 3))) (pK (.int 0))))) (sSqK sNev sSkip) sSkip) sSkip)))
    (I := fun st => ∃ a b u, st = [some (cD c), a, b, u]) (enumK (c.map R4.d) 0) [some (cD c), none, none, none] (fun d hd st hst => by
      obtain ⟨a, b, u, rfl⟩ := hst
      obtain ⟨i, y, hy, rfl⟩ := enumK_get _ 0 d hd
      obtain ⟨r, hr, rfl⟩ := map_get hy
      have p := hp r (List.mem_of_getElem? hr)
      refine ⟨[some (cD c), some (.int ((0 + i : Nat) : Int)), some r.d, u], rfl, [some (cD c), some (.int ((0 + i : Nat) : Int)), some r.d, u], ?_, _, _, _, rfl⟩
      simp only [R4.d, runK, sSqK, sIfK, sIfP, tOrK, tAndK, tNotK, tValK, liE, liT, liL, liI, liO, pNotT, pT, p1, p2, pK, pCons, pNil, pYes, pSeq, pAndE, pOrE, pNotE, pAndT, pOrT, pChain, pIf, pTup, pLst, pLc, pDic, pR1, pR2, sRetP, sRetK, sAsP, sAsK, sAoP, sAoK, sDrpK, sPar2K, sPar3K, sForP, sForK, sAppC, mAndK, mOrK, mNotK, mIfK, lConsK, mTupK, mLstK, mMK, m1K, m2K, mLcK, mCallP, mCallK, in_nil, in_cons, re_zero, re_succ, bk_ok, bk_dr, opK_some, opK_none, ooK_some, ooK_none, bK_t, bK_f, hd_cons, tl_cons, s0_cons, st_cons, fl_nx, fl_rt, fl_bk, fl_ct, rt_rt, rt_nx, dB_bl, dI_int, sq_tup, sq_lst, at_tup, al_nil, al_cons, nm_set, isi_tup_t, nh_int, nh_tup, nh_lst, nh_bl, nh_all_nil, nh_all_cons, ln_nil, ln_cons, lc_nil, lc_cons, lk_nil, lk_cons, fo_nil, fo_cons, all_l, any_l, allB_nil, anyB_nil, allB_cons, anyB_cons, ix_t0, ix_l0, ix_l1, ix_t1, ix_t2, ix_t3, pSl, pNo, pPart, pEnum, skip_nx, seq_k, fclk_eq, fck_eq, len_t, len_l, eq_i, ge_i, le_i, lt_i, gt_i, add_i, sub_i, int_i, chl, chle, id_eq, ble_ok, Nat.reduceAdd, List.length_cons, List.length_nil, decide_true, decide_false, Bool.not_true, Bool.not_false, Nat.zero_add, Nat.reduceLeDiff, Int.cast_ofNat_Int, g0, s0, g1, s1, g2, s2, g3, s3, g4, s4, g5, s5, g6, s6, g7, s7, g8, s8, g9, s9, g10, s10, g11, s11, g12, s12, g13, s13, g14, s14, g15, s15, g16, s16, g17, s17, g18, s18, g19, s19, g20, s20, g21, s21, g22, s22, g23, s23, g24, s24, g25, s25, g26, s26, g27, s27, g28, s28, g29, s29, g30, s30, g31, s31, g32, s32, g33, s33, g34, s34, g35, s35, g36, s36, g37, s37, g38, s38, g39, s39, t6t, ix_t3, t5t p.x0 p.x2, t5t p.y0 p.y2, t5t (show 0 ≤ r.w by have := p.w1; omega) p.w2, t5t (show 0 ≤ r.h by have := p.h1; omega) p.h2, decide_eq_false (show ¬ r.w = 0 by have := p.w1; omega), decide_eq_false (show ¬ r.h = 0 by have := p.h1; omega)]) ⟨_, _, _, rfl⟩
  simp only [runK, sSqK, sIfK, sIfP, tOrK, tAndK, tNotK, tValK, liE, liT, liL, liI, liO, pNotT, pT, p1, p2, pK, pCons, pNil, pYes, pSeq, pAndE, pOrE, pNotE, pAndT, pOrT, pChain, pIf, pTup, pLst, pLc, pDic, pR1, pR2, sRetP, sRetK, sAsP, sAsK, sAoP, sAoK, sDrpK, sPar2K, sPar3K, sForP, sForK, sAppC, mAndK, mOrK, mNotK, mIfK, lConsK, mTupK, mLstK, mMK, m1K, m2K, mLcK, mCallP, mCallK, in_nil, in_cons, re_zero, re_succ, bk_ok, bk_dr, opK_some, opK_none, ooK_some, ooK_none, bK_t, bK_f, hd_cons, tl_cons, s0_cons, st_cons, fl_nx, fl_rt, fl_bk, fl_ct, rt_rt, rt_nx, dB_bl, dI_int, sq_tup, sq_lst, at_tup, al_nil, al_cons, nm_set, isi_tup_t, nh_int, nh_tup, nh_lst, nh_bl, nh_all_nil, nh_all_cons, ln_nil, ln_cons, lc_nil, lc_cons, lk_nil, lk_cons, fo_nil, fo_cons, all_l, any_l, allB_nil, anyB_nil, allB_cons, anyB_cons, ix_t0, ix_l0, ix_l1, ix_t1, ix_t2, ix_t3, pSl, pNo, pPart, pEnum, skip_nx, seq_k, fclk_eq, fck_eq, len_t, len_l, eq_i, ge_i, le_i, lt_i, gt_i, add_i, sub_i, int_i, chl, chle, id_eq, ble_ok, Nat.reduceAdd, List.length_cons, List.length_nil, decide_true, decide_false, Bool.not_true, Bool.not_false, Nat.zero_add, Nat.reduceLeDiff, Int.cast_ofNat_Int, g0, s0, g1, s1, g2, s2, g3, s3, g4, s4, g5, s5, g6, s6, g7, s7, g8, s8, g9, s9, g10, s10, g11, s11, g12, s12, g13, s13, g14, s14, g15, s15, g16, s16, g17, s17, g18, s18, g19, s19, g20, s20, g21, s21, g22, s22, g23, s23, g24, s24, g25, s25, g26, s26, g27, s27, g28, s28, g29, s29, g30, s30, g31, s31, g32, s32, g33, s33, g34, s34, g35, s35, g36, s36, g37, s37, g38, s38, g39, s39] at e
  have l1 : decide ((1 : Int) ≤ (c.length : Nat)) = true := decide_eq_true (by omega)
  have l2 : decide (((c.length : Nat) : Int) ≤ 24) = true := decide_eq_true (by omega)
  simp only [F7, nn7, runK, sSqK, sIfK, sIfP, tOrK, tAndK, tNotK, tValK, liE, liT, liL, liI, liO, pNotT, pT, p1, p2, pK, pCons, pNil, pYes, pSeq, pAndE, pOrE, pNotE, pAndT, pOrT, pChain, pIf, pTup, pLst, pLc, pDic, pR1, pR2, sRetP, sRetK, sAsP, sAsK, sAoP, sAoK, sDrpK, sPar2K, sPar3K, sForP, sForK, sAppC, mAndK, mOrK, mNotK, mIfK, lConsK, mTupK, mLstK, mMK, m1K, m2K, mLcK, mCallP, mCallK, in_nil, in_cons, re_zero, re_succ, bk_ok, bk_dr, opK_some, opK_none, ooK_some, ooK_none, bK_t, bK_f, hd_cons, tl_cons, s0_cons, st_cons, fl_nx, fl_rt, fl_bk, fl_ct, rt_rt, rt_nx, dB_bl, dI_int, sq_tup, sq_lst, at_tup, al_nil, al_cons, nm_set, isi_tup_t, nh_int, nh_tup, nh_lst, nh_bl, nh_all_nil, nh_all_cons, ln_nil, ln_cons, lc_nil, lc_cons, lk_nil, lk_cons, fo_nil, fo_cons, all_l, any_l, allB_nil, anyB_nil, allB_cons, anyB_cons, ix_t0, ix_l0, ix_l1, ix_t1, ix_t2, ix_t3, pSl, pNo, pPart, pEnum, skip_nx, seq_k, fclk_eq, fck_eq, len_t, len_l, eq_i, ge_i, le_i, lt_i, gt_i, add_i, sub_i, int_i, chl, chle, id_eq, ble_ok, Nat.reduceAdd, List.length_cons, List.length_nil, decide_true, decide_false, Bool.not_true, Bool.not_false, Nat.zero_add, Nat.reduceLeDiff, Int.cast_ofNat_Int, g0, s0, g1, s1, g2, s2, g3, s3, g4, s4, g5, s5, g6, s6, g7, s7, g8, s8, g9, s9, g10, s10, g11, s11, g12, s12, g13, s13, g14, s14, g15, s15, g16, s16, g17, s17, g18, s18, g19, s19, g20, s20, g21, s21, g22, s22, g23, s23, g24, s24, g25, s25, g26, s26, g27, s27, g28, s28, g29, s29, g30, s30, g31, s31, g32, s32, g33, s33, g34, s34, g35, s35, g36, s36, g37, s37, g38, s38, g39, s39, pEnum, t6t, List.length_map, l1, l2, e]
end EV
set_option maxHeartbeats 0
namespace EV
open PySem PySem.Spec PyProof.Rows L2
theorem Cut.pt {W H : Int} {c : List R4} (C : Cut W H c) : ∀ r ∈ c, Pt r := fun r hr => (C.inb r hr).pt C.W2 C.H2
theorem lenb {W H : Int} {c : List R4} (C : Cut W H c) : 0 + c.length ≤ 16000000 := by have := C.len1; omega
theorem t8 {W H : Int} {c : List R4} (C : Cut W H c) : F8 [cD c] = .ok (.tup [.int W, .int H]) := by
  have e1 := lcP_mapg (A := aNm s1) (st := [some (cD c), none]) (c := pYes) (e := p2 oAddK (p2 oIxK g1 (pK (.int 0))) (p2 oIxK g1 (pK (.int 2)))) (g := R4.d) (h := fun r => .int (r.x + r.w)) c 0 (fun r hr => ⟨[some (cD c), some r.d], rfl, rfl, by simp only [R4.d, runK, sSqK, sIfK, sIfP, tOrK, tAndK, tNotK, tValK, liE, liT, liL, liI, liO, pNotT, pT, p1, p2, pK, pCons, pNil, pYes, pSeq, pAndE, pOrE, pNotE, pAndT, pOrT, pChain, pIf, pTup, pLst, pLc, pDic, pR1, pR2, sRetP, sRetK, sAsP, sAsK, sAoP, sAoK, sDrpK, sPar2K, sPar3K, sForP, sForK, sAppC, mAndK, mOrK, mNotK, mIfK, lConsK, mTupK, mLstK, mMK, m1K, m2K, mLcK, mCallP, mCallK, in_nil, in_cons, re_zero, re_succ, bk_ok, bk_dr, opK_some, opK_none, ooK_some, ooK_none, bK_t, bK_f, hd_cons, tl_cons, s0_cons, st_cons, fl_nx, fl_rt, fl_bk, fl_ct, rt_rt, rt_nx, dB_bl, dI_int, sq_tup, sq_lst, at_tup, al_nil, al_cons, nm_set, isi_tup_t, nh_int, nh_tup, nh_lst, nh_bl, nh_all_nil, nh_all_cons, ln_nil, ln_cons, lc_nil, lc_cons, lk_nil, lk_cons, fo_nil, fo_cons, all_l, any_l, allB_nil, anyB_nil, allB_cons, anyB_cons, ix_t0, ix_l0, ix_l1, ix_t1, ix_t2, ix_t3, pSl, pNo, pPart, pEnum, skip_nx, seq_k, fclk_eq, fck_eq, len_t, len_l, eq_i, ge_i, le_i, lt_i, gt_i, add_i, sub_i, int_i, chl, chle, id_eq, ble_ok, Nat.reduceAdd, List.length_cons, List.length_nil, decide_true, decide_false, Bool.not_true, Bool.not_false, Nat.zero_add, Nat.reduceLeDiff, Int.cast_ofNat_Int, g0, s0, g1, s1, g2, s2, g3, s3, g4, s4, g5, s5, g6, s6, g7, s7, g8, s8, g9, s9, g10, s10, g11, s11, g12, s12, g13, s13, g14, s14, g15, s15, g16, s16, g17, s17, g18, s18, g19, s19, g20, s20, g21, s21, g22, s22, g23, s23, g24, s24, g25, s25, g26, s26, g27, s27, g28, s28, g29, s29, g30, s30, g31, s31, g32, s32, g33, s33, g34, s34, g35, s35, g36, s36, g37, s37, g38, s38, g39, s39], rfl⟩) (lenb C)
  have e2 := lcP_mapg (A := aNm s1) (st := [some (cD c), none]) (c := pYes) (e := p2 oAddK (p2 oIxK g1 (pK (.int 1))) (p2 oIxK g1 (pK (.int 3)))) (g := R4.d) (h := fun r => .int (r.y + r.h)) c 0 (fun r hr => ⟨[some (cD c), some r.d], rfl, rfl, by simp only [R4.d, runK, sSqK, sIfK, sIfP, tOrK, tAndK, tNotK, tValK, liE, liT, liL, liI, liO, pNotT, pT, p1, p2, pK, pCons, pNil, pYes, pSeq, pAndE, pOrE, pNotE, pAndT, pOrT, pChain, pIf, pTup, pLst, pLc, pDic, pR1, pR2, sRetP, sRetK, sAsP, sAsK, sAoP, sAoK, sDrpK, sPar2K, sPar3K, sForP, sForK, sAppC, mAndK, mOrK, mNotK, mIfK, lConsK, mTupK, mLstK, mMK, m1K, m2K, mLcK, mCallP, mCallK, in_nil, in_cons, re_zero, re_succ, bk_ok, bk_dr, opK_some, opK_none, ooK_some, ooK_none, bK_t, bK_f, hd_cons, tl_cons, s0_cons, st_cons, fl_nx, fl_rt, fl_bk, fl_ct, rt_rt, rt_nx, dB_bl, dI_int, sq_tup, sq_lst, at_tup, al_nil, al_cons, nm_set, isi_tup_t, nh_int, nh_tup, nh_lst, nh_bl, nh_all_nil, nh_all_cons, ln_nil, ln_cons, lc_nil, lc_cons, lk_nil, lk_cons, fo_nil, fo_cons, all_l, any_l, allB_nil, anyB_nil, allB_cons, anyB_cons, ix_t0, ix_l0, ix_l1, ix_t1, ix_t2, ix_t3, pSl, pNo, pPart, pEnum, skip_nx, seq_k, fclk_eq, fck_eq, len_t, len_l, eq_i, ge_i, le_i, lt_i, gt_i, add_i, sub_i, int_i, chl, chle, id_eq, ble_ok, Nat.reduceAdd, List.length_cons, List.length_nil, decide_true, decide_false, Bool.not_true, Bool.not_false, Nat.zero_add, Nat.reduceLeDiff, Int.cast_ofNat_Int, g0, s0, g1, s1, g2, s2, g3, s3, g4, s4, g5, s5, g6, s6, g7, s7, g8, s8, g9, s9, g10, s10, g11, s11, g12, s12, g13, s13, g14, s14, g15, s15, g16, s16, g17, s17, g18, s18, g19, s19, g20, s20, g21, s21, g22, s22, g23, s23, g24, s24, g25, s25, g26, s26, g27, s27, g28, s28, g29, s29, g30, s30, g31, s31, g32, s32, g33, s33, g34, s34, g35, s35, g36, s36, g37, s37, g38, s38, g39, s39, ix_t3], rfl⟩) (lenb C)
  have m1 := max_ok (f := fun r : R4 => r.x + r.w) (l := c) (M := W) C.mx fun r hr => (C.inb r hr).xw
  have m2 := max_ok (f := fun r : R4 => r.y + r.h) (l := c) (M := H) C.my fun r hr => (C.inb r hr).yh
  have h7 := t7 C.len0 C.len1 C.pt
  simp only [runK, sSqK, sIfK, sIfP, tOrK, tAndK, tNotK, tValK, liE, liT, liL, liI, liO, pNotT, pT, p1, p2, pK, pCons, pNil, pYes, pSeq, pAndE, pOrE, pNotE, pAndT, pOrT, pChain, pIf, pTup, pLst, pLc, pDic, pR1, pR2, sRetP, sRetK, sAsP, sAsK, sAoP, sAoK, sDrpK, sPar2K, sPar3K, sForP, sForK, sAppC, mAndK, mOrK, mNotK, mIfK, lConsK, mTupK, mLstK, mMK, m1K, m2K, mLcK, mCallP, mCallK, in_nil, in_cons, re_zero, re_succ, bk_ok, bk_dr, opK_some, opK_none, ooK_some, ooK_none, bK_t, bK_f, hd_cons, tl_cons, s0_cons, st_cons, fl_nx, fl_rt, fl_bk, fl_ct, rt_rt, rt_nx, dB_bl, dI_int, sq_tup, sq_lst, at_tup, al_nil, al_cons, nm_set, isi_tup_t, nh_int, nh_tup, nh_lst, nh_bl, nh_all_nil, nh_all_cons, ln_nil, ln_cons, lc_nil, lc_cons, lk_nil, lk_cons, fo_nil, fo_cons, all_l, any_l, allB_nil, anyB_nil, allB_cons, anyB_cons, ix_t0, ix_l0, ix_l1, ix_t1, ix_t2, ix_t3, pSl, pNo, pPart, pEnum, skip_nx, seq_k, fclk_eq, fck_eq, len_t, len_l, eq_i, ge_i, le_i, lt_i, gt_i, add_i, sub_i, int_i, chl, chle, id_eq, ble_ok, Nat.reduceAdd, List.length_cons, List.length_nil, decide_true, decide_false, Bool.not_true, Bool.not_false, Nat.zero_add, Nat.reduceLeDiff, Int.cast_ofNat_Int, g0, s0, g1, s1, g2, s2, g3, s3, g4, s4, g5, s5, g6, s6, g7, s7, g8, s8, g9, s9, g10, s10, g11, s11, g12, s12, g13, s13, g14, s14, g15, s15, g16, s16, g17, s17, g18, s18, g19, s19, g20, s20, g21, s21, g22, s22, g23, s23, g24, s24, g25, s25, g26, s26, g27, s27, g28, s28, g29, s29, g30, s30, g31, s31, g32, s32, g33, s33, g34, s34, g35, s35, g36, s36, g37, s37, g38, s38, g39, s39] at e1 e2
  simp only [F8, nn8, runK, sSqK, sIfK, sIfP, tOrK, tAndK, tNotK, tValK, liE, liT, liL, liI, liO, pNotT, pT, p1, p2, pK, pCons, pNil, pYes, pSeq, pAndE, pOrE, pNotE, pAndT, pOrT, pChain, pIf, pTup, pLst, pLc, pDic, pR1, pR2, sRetP, sRetK, sAsP, sAsK, sAoP, sAoK, sDrpK, sPar2K, sPar3K, sForP, sForK, sAppC, mAndK, mOrK, mNotK, mIfK, lConsK, mTupK, mLstK, mMK, m1K, m2K, mLcK, mCallP, mCallK, in_nil, in_cons, re_zero, re_succ, bk_ok, bk_dr, opK_some, opK_none, ooK_some, ooK_none, bK_t, bK_f, hd_cons, tl_cons, s0_cons, st_cons, fl_nx, fl_rt, fl_bk, fl_ct, rt_rt, rt_nx, dB_bl, dI_int, sq_tup, sq_lst, at_tup, al_nil, al_cons, nm_set, isi_tup_t, nh_int, nh_tup, nh_lst, nh_bl, nh_all_nil, nh_all_cons, ln_nil, ln_cons, lc_nil, lc_cons, lk_nil, lk_cons, fo_nil, fo_cons, all_l, any_l, allB_nil, anyB_nil, allB_cons, anyB_cons, ix_t0, ix_l0, ix_l1, ix_t1, ix_t2, ix_t3, pSl, pNo, pPart, pEnum, skip_nx, seq_k, fclk_eq, fck_eq, len_t, len_l, eq_i, ge_i, le_i, lt_i, gt_i, add_i, sub_i, int_i, chl, chle, id_eq, ble_ok, Nat.reduceAdd, List.length_cons, List.length_nil, decide_true, decide_false, Bool.not_true, Bool.not_false, Nat.zero_add, Nat.reduceLeDiff, Int.cast_ofNat_Int, g0, s0, g1, s1, g2, s2, g3, s3, g4, s4, g5, s5, g6, s6, g7, s7, g8, s8, g9, s9, g10, s10, g11, s11, g12, s12, g13, s13, g14, s14, g15, s15, g16, s16, g17, s17, g18, s18, g19, s19, g20, s20, g21, s21, g22, s22, g23, s23, g24, s24, g25, s25, g26, s26, g27, s27, g28, s28, g29, s29, g30, s30, g31, s31, g32, s32, g33, s33, g34, s34, g35, s35, g36, s36, g37, s37, g38, s38, g39, s39, h7, e1, e2, m1, m2]
theorem t9 (a b : R4) : F9 [a.d, b.d] = .ok (.bl (meet a b)) := by
  unfold meet
  cases h1 : decide (a.x < b.x + b.w) <;> cases h2 : decide (b.x < a.x + a.w) <;> cases h3 : decide (a.y < b.y + b.h) <;> cases h4 : decide (b.y < a.y + a.h) <;> simp only [F9, nn9, R4.d, runK, sSqK, sIfK, sIfP, tOrK, tAndK, tNotK, tValK, liE, liT, liL, liI, liO, pNotT, pT, p1, p2, pK, pCons, pNil, pYes, pSeq, pAndE, pOrE, pNotE, pAndT, pOrT, pChain, pIf, pTup, pLst, pLc, pDic, pR1, pR2, sRetP, sRetK, sAsP, sAsK, sAoP, sAoK, sDrpK, sPar2K, sPar3K, sForP, sForK, sAppC, mAndK, mOrK, mNotK, mIfK, lConsK, mTupK, mLstK, mMK, m1K, m2K, mLcK, mCallP, mCallK, in_nil, in_cons, re_zero, re_succ, bk_ok, bk_dr, opK_some, opK_none, ooK_some, ooK_none, bK_t, bK_f, hd_cons, tl_cons, s0_cons, st_cons, fl_nx, fl_rt, fl_bk, fl_ct, rt_rt, rt_nx, dB_bl, dI_int, sq_tup, sq_lst, at_tup, al_nil, al_cons, nm_set, isi_tup_t, nh_int, nh_tup, nh_lst, nh_bl, nh_all_nil, nh_all_cons, ln_nil, ln_cons, lc_nil, lc_cons, lk_nil, lk_cons, fo_nil, fo_cons, all_l, any_l, allB_nil, anyB_nil, allB_cons, anyB_cons, ix_t0, ix_l0, ix_l1, ix_t1, ix_t2, ix_t3, pSl, pNo, pPart, pEnum, skip_nx, seq_k, fclk_eq, fck_eq, len_t, len_l, eq_i, ge_i, le_i, lt_i, gt_i, add_i, sub_i, int_i, chl, chle, id_eq, ble_ok, Nat.reduceAdd, List.length_cons, List.length_nil, decide_true, decide_false, Bool.not_true, Bool.not_false, Nat.zero_add, Nat.reduceLeDiff, Int.cast_ofNat_Int, g0, s0, g1, s1, g2, s2, g3, s3, g4, s4, g5, s5, g6, s6, g7, s7, g8, s8, g9, s9, g10, s10, g11, s11, g12, s12, g13, s13, g14, s14, g15, s15, g16, s16, g17, s17, g18, s18, g19, s19, g20, s20, g21, s21, g22, s22, g23, s23, g24, s24, g25, s25, g26, s26, g27, s27, g28, s28, g29, s29, g30, s30, g31, s31, g32, s32, g33, s33, g34, s34, g35, s35, g36, s36, g37, s37, g38, s38, g39, s39, ix_t3, h1, h2, h3, h4] <;> rfl
theorem t10 {W H : Int} {c : List R4} (C : Cut W H c) : F10 [cD c] = .ok (.bl true) := by
  obtain ⟨st2, e1, a2, b2, u2, v2, w2, z2, rfl⟩ := forK_ok (A := aNm s1) (b := (sSqK (sIfK (tOrK (tNotK (tValK (mCallP F6 (pCons g1 pNil)))) (tOrK (liT (pT (p2 (oEqFK (fun b => !b)) (p1 oLenK g1) (pK (.int 4))))) (tNotK (tValK (m1K oAllK (mLcK (liI (pSeq g1)) (aNm s3) (fun st => s3 none (id st)) (liT pYes) (mCallP F5 (pCons g3 (pCons (pK (.int 0)) (pCons (pK (.int 200)) pNil)))))))))) (sSqK (sRetP (pK (.bl false))) sSkip) sSkip) (sSqK (sIfP (pOrT (pT (p2 (oEqFK id) (p2 oIxK g1 (pK (.int 2))) (pK (.int 0)))) (pT (p2 (oEqFK id) (p2 oIxK g1 (pK (.int 3))) (pK (.int 0))))) (sSqK (sRetP (pK (.bl false))) sSkip) sSkip) sSkip)))
    (I := fun st => ∃ a b u v w z, st = [some (cD c), a, b, u, v, w, z]) (c.map R4.d) [some (cD c), none, none, none, none, none, none] (fun d hd st hst => by
      obtain ⟨a, b, u, v, w, z, rfl⟩ := hst
      obtain ⟨r, hr, rfl⟩ := List.mem_map.mp hd
      have p := C.pt r hr
      refine ⟨[some (cD c), some r.d, b, u, v, w, z], rfl, [some (cD c), some r.d, b, u, v, w, z], ?_, _, _, _, _, _, _, rfl⟩
      simp only [R4.d, runK, sSqK, sIfK, sIfP, tOrK, tAndK, tNotK, tValK, liE, liT, liL, liI, liO, pNotT, pT, p1, p2, pK, pCons, pNil, pYes, pSeq, pAndE, pOrE, pNotE, pAndT, pOrT, pChain, pIf, pTup, pLst, pLc, pDic, pR1, pR2, sRetP, sRetK, sAsP, sAsK, sAoP, sAoK, sDrpK, sPar2K, sPar3K, sForP, sForK, sAppC, mAndK, mOrK, mNotK, mIfK, lConsK, mTupK, mLstK, mMK, m1K, m2K, mLcK, mCallP, mCallK, in_nil, in_cons, re_zero, re_succ, bk_ok, bk_dr, opK_some, opK_none, ooK_some, ooK_none, bK_t, bK_f, hd_cons, tl_cons, s0_cons, st_cons, fl_nx, fl_rt, fl_bk, fl_ct, rt_rt, rt_nx, dB_bl, dI_int, sq_tup, sq_lst, at_tup, al_nil, al_cons, nm_set, isi_tup_t, nh_int, nh_tup, nh_lst, nh_bl, nh_all_nil, nh_all_cons, ln_nil, ln_cons, lc_nil, lc_cons, lk_nil, lk_cons, fo_nil, fo_cons, all_l, any_l, allB_nil, anyB_nil, allB_cons, anyB_cons, ix_t0, ix_l0, ix_l1, ix_t1, ix_t2, ix_t3, pSl, pNo, pPart, pEnum, skip_nx, seq_k, fclk_eq, fck_eq, len_t, len_l, eq_i, ge_i, le_i, lt_i, gt_i, add_i, sub_i, int_i, chl, chle, id_eq, ble_ok, Nat.reduceAdd, List.length_cons, List.length_nil, decide_true, decide_false, Bool.not_true, Bool.not_false, Nat.zero_add, Nat.reduceLeDiff, Int.cast_ofNat_Int, g0, s0, g1, s1, g2, s2, g3, s3, g4, s4, g5, s5, g6, s6, g7, s7, g8, s8, g9, s9, g10, s10, g11, s11, g12, s12, g13, s13, g14, s14, g15, s15, g16, s16, g17, s17, g18, s18, g19, s19, g20, s20, g21, s21, g22, s22, g23, s23, g24, s24, g25, s25, g26, s26, g27, s27, g28, s28, g29, s29, g30, s30, g31, s31, g32, s32, g33, s33, g34, s34, g35, s35, g36, s36, g37, s37, g38, s38, g39, s39, t6t, ix_t3, t5t p.x0 p.x2, t5t p.y0 p.y2, t5t (show 0 ≤ r.w by have := p.w1; omega) p.w2, t5t (show 0 ≤ r.h by have := p.h1; omega) p.h2, decide_eq_false (show ¬ r.w = 0 by have := p.w1; omega), decide_eq_false (show ¬ r.h = 0 by have := p.h1; omega)]) ⟨_, _, _, _, _, _, rfl⟩
  obtain ⟨st3, e2, a3, b3, u3, v3, w3, z3, rfl⟩ := forK_ok (A := aTp (aCons (aNm s2) (aCons (aNm s3) aNil))) (b := (sSqK (sIfK (tValK (m1K oAnyK (mLcK (liI (pSeq (pSl false g0 pNo (pPart g2)))) (aNm s6) (fun st => s6 none (id st)) (liT pYes) (mCallP F9 (pCons g3 (pCons g6 pNil)))))) (sSqK (sRetP (pK (.bl false))) sSkip) sSkip) sSkip))
    (I := fun st => ∃ a b u v w z, st = [some (cD c), a, b, u, v, w, z]) (enumK (c.map R4.d) 0) [some (cD c), a2, b2, u2, v2, w2, z2] (fun d hd st hst => by
      obtain ⟨a, b, u, v, w, z, rfl⟩ := hst
      obtain ⟨i, y, hy, rfl⟩ := enumK_get _ 0 d hd
      obtain ⟨r, hr, rfl⟩ := map_get hy
      rw [Nat.zero_add]
      refine ⟨[some (cD c), a, some (.int (i : Nat)), some r.d, v, w, z], rfl, [some (cD c), a, some (.int (i : Nat)), some r.d, v, w, z], ?_, _, _, _, _, _, _, rfl⟩
      have e := lcK_mapg (A := aNm s6) (st := [some (cD c), a, some (.int (i : Nat)), some r.d, v, w, none]) (c := liT pYes) (e := mCallP F9 (pCons g3 (pCons g6 pNil))) (g := R4.d) (h := fun q => .bl (meet r q)) (c.take i) 0 (fun q hq => ⟨[some (cD c), a, some (.int (i : Nat)), some r.d, v, w, some q.d], rfl, ⟨_, rfl⟩, ⟨_, callP_ok (xs := [r.d, q.d]) rfl (t9 r q)⟩, rfl⟩) (by have := C.len1; rw [List.length_take]; omega)
      have f : (c.take i).any (fun q => meet r q) = false := by
        rw [List.any_eq_false]
        intro q hq hm
        obtain ⟨j, hj, hq2⟩ := List.mem_take_iff_getElem.mp hq
        have hi : i < c.length := (List.getElem?_eq_some_iff.mp hr).1
        have := List.pairwise_iff_getElem.mp C.dj j i (by omega) hi (by omega)
        rw [hq2, (List.getElem?_eq_some_iff.mp hr).2, hm] at this
        cases this
      have g := anyB_mapg (fun q => meet r q) (c.take i)
      rw [f] at g
      have sl : slD false (cD c) none (some (i : Int)) = some (.tup ((c.take i).map R4.d)) := by
        show some (D.tup (cutD (c.map R4.d) none (some (i : Int)))) = _
        rw [cut_take, List.map_take]
      simp only [runK, sSqK, sIfK, sIfP, tOrK, tAndK, tNotK, tValK, liE, liT, liL, liI, liO, pNotT, pT, p1, p2, pK, pCons, pNil, pYes, pSeq, pAndE, pOrE, pNotE, pAndT, pOrT, pChain, pIf, pTup, pLst, pLc, pDic, pR1, pR2, sRetP, sRetK, sAsP, sAsK, sAoP, sAoK, sDrpK, sPar2K, sPar3K, sForP, sForK, sAppC, mAndK, mOrK, mNotK, mIfK, lConsK, mTupK, mLstK, mMK, m1K, m2K, mLcK, mCallP, mCallK, in_nil, in_cons, re_zero, re_succ, bk_ok, bk_dr, opK_some, opK_none, ooK_some, ooK_none, bK_t, bK_f, hd_cons, tl_cons, s0_cons, st_cons, fl_nx, fl_rt, fl_bk, fl_ct, rt_rt, rt_nx, dB_bl, dI_int, sq_tup, sq_lst, at_tup, al_nil, al_cons, nm_set, isi_tup_t, nh_int, nh_tup, nh_lst, nh_bl, nh_all_nil, nh_all_cons, ln_nil, ln_cons, lc_nil, lc_cons, lk_nil, lk_cons, fo_nil, fo_cons, all_l, any_l, allB_nil, anyB_nil, allB_cons, anyB_cons, ix_t0, ix_l0, ix_l1, ix_t1, ix_t2, ix_t3, pSl, pNo, pPart, pEnum, skip_nx, seq_k, fclk_eq, fck_eq, len_t, len_l, eq_i, ge_i, le_i, lt_i, gt_i, add_i, sub_i, int_i, chl, chle, id_eq, ble_ok, Nat.reduceAdd, List.length_cons, List.length_nil, decide_true, decide_false, Bool.not_true, Bool.not_false, Nat.zero_add, Nat.reduceLeDiff, Int.cast_ofNat_Int, g0, s0, g1, s1, g2, s2, g3, s3, g4, s4, g5, s5, g6, s6, g7, s7, g8, s8, g9, s9, g10, s10, g11, s11, g12, s12, g13, s13, g14, s14, g15, s15, g16, s16, g17, s17, g18, s18, g19, s19, g20, s20, g21, s21, g22, s22, g23, s23, g24, s24, g25, s25, g26, s26, g27, s27, g28, s28, g29, s29, g30, s30, g31, s31, g32, s32, g33, s33, g34, s34, g35, s35, g36, s36, g37, s37, g38, s38, g39, s39] at e
      simp only [runK, sSqK, sIfK, sIfP, tOrK, tAndK, tNotK, tValK, liE, liT, liL, liI, liO, pNotT, pT, p1, p2, pK, pCons, pNil, pYes, pSeq, pAndE, pOrE, pNotE, pAndT, pOrT, pChain, pIf, pTup, pLst, pLc, pDic, pR1, pR2, sRetP, sRetK, sAsP, sAsK, sAoP, sAoK, sDrpK, sPar2K, sPar3K, sForP, sForK, sAppC, mAndK, mOrK, mNotK, mIfK, lConsK, mTupK, mLstK, mMK, m1K, m2K, mLcK, mCallP, mCallK, in_nil, in_cons, re_zero, re_succ, bk_ok, bk_dr, opK_some, opK_none, ooK_some, ooK_none, bK_t, bK_f, hd_cons, tl_cons, s0_cons, st_cons, fl_nx, fl_rt, fl_bk, fl_ct, rt_rt, rt_nx, dB_bl, dI_int, sq_tup, sq_lst, at_tup, al_nil, al_cons, nm_set, isi_tup_t, nh_int, nh_tup, nh_lst, nh_bl, nh_all_nil, nh_all_cons, ln_nil, ln_cons, lc_nil, lc_cons, lk_nil, lk_cons, fo_nil, fo_cons, all_l, any_l, allB_nil, anyB_nil, allB_cons, anyB_cons, ix_t0, ix_l0, ix_l1, ix_t1, ix_t2, ix_t3, pSl, pNo, pPart, pEnum, skip_nx, seq_k, fclk_eq, fck_eq, len_t, len_l, eq_i, ge_i, le_i, lt_i, gt_i, add_i, sub_i, int_i, chl, chle, id_eq, ble_ok, Nat.reduceAdd, List.length_cons, List.length_nil, decide_true, decide_false, Bool.not_true, Bool.not_false, Nat.zero_add, Nat.reduceLeDiff, Int.cast_ofNat_Int, g0, s0, g1, s1, g2, s2, g3, s3, g4, s4, g5, s5, g6, s6, g7, s7, g8, s8, g9, s9, g10, s10, g11, s11, g12, s12, g13, s13, g14, s14, g15, s15, g16, s16, g17, s17, g18, s18, g19, s19, g20, s20, g21, s21, g22, s22, g23, s23, g24, s24, g25, s25, g26, s26, g27, s27, g28, s28, g29, s29, g30, s30, g31, s31, g32, s32, g33, s33, g34, s34, g35, s35, g36, s36, g37, s37, g38, s38, g39, s39, sl, e, g]) ⟨_, _, _, _, _, _, rfl⟩
  simp only [runK, sSqK, sIfK, sIfP, tOrK, tAndK, tNotK, tValK, liE, liT, liL, liI, liO, pNotT, pT, p1, p2, pK, pCons, pNil, pYes, pSeq, pAndE, pOrE, pNotE, pAndT, pOrT, pChain, pIf, pTup, pLst, pLc, pDic, pR1, pR2, sRetP, sRetK, sAsP, sAsK, sAoP, sAoK, sDrpK, sPar2K, sPar3K, sForP, sForK, sAppC, mAndK, mOrK, mNotK, mIfK, lConsK, mTupK, mLstK, mMK, m1K, m2K, mLcK, mCallP, mCallK, in_nil, in_cons, re_zero, re_succ, bk_ok, bk_dr, opK_some, opK_none, ooK_some, ooK_none, bK_t, bK_f, hd_cons, tl_cons, s0_cons, st_cons, fl_nx, fl_rt, fl_bk, fl_ct, rt_rt, rt_nx, dB_bl, dI_int, sq_tup, sq_lst, at_tup, al_nil, al_cons, nm_set, isi_tup_t, nh_int, nh_tup, nh_lst, nh_bl, nh_all_nil, nh_all_cons, ln_nil, ln_cons, lc_nil, lc_cons, lk_nil, lk_cons, fo_nil, fo_cons, all_l, any_l, allB_nil, anyB_nil, allB_cons, anyB_cons, ix_t0, ix_l0, ix_l1, ix_t1, ix_t2, ix_t3, pSl, pNo, pPart, pEnum, skip_nx, seq_k, fclk_eq, fck_eq, len_t, len_l, eq_i, ge_i, le_i, lt_i, gt_i, add_i, sub_i, int_i, chl, chle, id_eq, ble_ok, Nat.reduceAdd, List.length_cons, List.length_nil, decide_true, decide_false, Bool.not_true, Bool.not_false, Nat.zero_add, Nat.reduceLeDiff, Int.cast_ofNat_Int, g0, s0, g1, s1, g2, s2, g3, s3, g4, s4, g5, s5, g6, s6, g7, s7, g8, s8, g9, s9, g10, s10, g11, s11, g12, s12, g13, s13, g14, s14, g15, s15, g16, s16, g17, s17, g18, s18, g19, s19, g20, s20, g21, s21, g22, s22, g23, s23, g24, s24, g25, s25, g26, s26, g27, s27, g28, s28, g29, s29, g30, s30, g31, s31, g32, s32, g33, s33, g34, s34, g35, s35, g36, s36, g37, s37, g38, s38, g39, s39] at e1 e2
  have e3 := lcP_mapg (A := aNm s1) (st := [some (cD c), none, b3, u3, some (.int W), some (.int H), z3]) (c := pYes) (e := p2 oMulK (p2 oIxK g1 (pK (.int 2))) (p2 oIxK g1 (pK (.int 3)))) (g := R4.d) (h := fun r => .int (area r)) c 0 (fun r hr => ⟨[some (cD c), some r.d, b3, u3, some (.int W), some (.int H), z3], rfl, rfl, by
    have p := C.pt r hr
    have m := mul_i (i := r.w) (j := r.h) (by have := p.w1; omega) (by have := p.w2; omega)
    simp only [R4.d, runK, sSqK, sIfK, sIfP, tOrK, tAndK, tNotK, tValK, liE, liT, liL, liI, liO, pNotT, pT, p1, p2, pK, pCons, pNil, pYes, pSeq, pAndE, pOrE, pNotE, pAndT, pOrT, pChain, pIf, pTup, pLst, pLc, pDic, pR1, pR2, sRetP, sRetK, sAsP, sAsK, sAoP, sAoK, sDrpK, sPar2K, sPar3K, sForP, sForK, sAppC, mAndK, mOrK, mNotK, mIfK, lConsK, mTupK, mLstK, mMK, m1K, m2K, mLcK, mCallP, mCallK, in_nil, in_cons, re_zero, re_succ, bk_ok, bk_dr, opK_some, opK_none, ooK_some, ooK_none, bK_t, bK_f, hd_cons, tl_cons, s0_cons, st_cons, fl_nx, fl_rt, fl_bk, fl_ct, rt_rt, rt_nx, dB_bl, dI_int, sq_tup, sq_lst, at_tup, al_nil, al_cons, nm_set, isi_tup_t, nh_int, nh_tup, nh_lst, nh_bl, nh_all_nil, nh_all_cons, ln_nil, ln_cons, lc_nil, lc_cons, lk_nil, lk_cons, fo_nil, fo_cons, all_l, any_l, allB_nil, anyB_nil, allB_cons, anyB_cons, ix_t0, ix_l0, ix_l1, ix_t1, ix_t2, ix_t3, pSl, pNo, pPart, pEnum, skip_nx, seq_k, fclk_eq, fck_eq, len_t, len_l, eq_i, ge_i, le_i, lt_i, gt_i, add_i, sub_i, int_i, chl, chle, id_eq, ble_ok, Nat.reduceAdd, List.length_cons, List.length_nil, decide_true, decide_false, Bool.not_true, Bool.not_false, Nat.zero_add, Nat.reduceLeDiff, Int.cast_ofNat_Int, g0, s0, g1, s1, g2, s2, g3, s3, g4, s4, g5, s5, g6, s6, g7, s7, g8, s8, g9, s9, g10, s10, g11, s11, g12, s12, g13, s13, g14, s14, g15, s15, g16, s16, g17, s17, g18, s18, g19, s19, g20, s20, g21, s21, g22, s22, g23, s23, g24, s24, g25, s25, g26, s26, g27, s27, g28, s28, g29, s29, g30, s30, g31, s31, g32, s32, g33, s33, g34, s34, g35, s35, g36, s36, g37, s37, g38, s38, g39, s39, m, area], rfl⟩) (lenb C)
  simp only [runK, sSqK, sIfK, sIfP, tOrK, tAndK, tNotK, tValK, liE, liT, liL, liI, liO, pNotT, pT, p1, p2, pK, pCons, pNil, pYes, pSeq, pAndE, pOrE, pNotE, pAndT, pOrT, pChain, pIf, pTup, pLst, pLc, pDic, pR1, pR2, sRetP, sRetK, sAsP, sAsK, sAoP, sAoK, sDrpK, sPar2K, sPar3K, sForP, sForK, sAppC, mAndK, mOrK, mNotK, mIfK, lConsK, mTupK, mLstK, mMK, m1K, m2K, mLcK, mCallP, mCallK, in_nil, in_cons, re_zero, re_succ, bk_ok, bk_dr, opK_some, opK_none, ooK_some, ooK_none, bK_t, bK_f, hd_cons, tl_cons, s0_cons, st_cons, fl_nx, fl_rt, fl_bk, fl_ct, rt_rt, rt_nx, dB_bl, dI_int, sq_tup, sq_lst, at_tup, al_nil, al_cons, nm_set, isi_tup_t, nh_int, nh_tup, nh_lst, nh_bl, nh_all_nil, nh_all_cons, ln_nil, ln_cons, lc_nil, lc_cons, lk_nil, lk_cons, fo_nil, fo_cons, all_l, any_l, allB_nil, anyB_nil, allB_cons, anyB_cons, ix_t0, ix_l0, ix_l1, ix_t1, ix_t2, ix_t3, pSl, pNo, pPart, pEnum, skip_nx, seq_k, fclk_eq, fck_eq, len_t, len_l, eq_i, ge_i, le_i, lt_i, gt_i, add_i, sub_i, int_i, chl, chle, id_eq, ble_ok, Nat.reduceAdd, List.length_cons, List.length_nil, decide_true, decide_false, Bool.not_true, Bool.not_false, Nat.zero_add, Nat.reduceLeDiff, Int.cast_ofNat_Int, g0, s0, g1, s1, g2, s2, g3, s3, g4, s4, g5, s5, g6, s6, g7, s7, g8, s8, g9, s9, g10, s10, g11, s11, g12, s12, g13, s13, g14, s14, g15, s15, g16, s16, g17, s17, g18, s18, g19, s19, g20, s20, g21, s21, g22, s22, g23, s23, g24, s24, g25, s25, g26, s26, g27, s27, g28, s28, g29, s29, g30, s30, g31, s31, g32, s32, g33, s33, g34, s34, g35, s35, g36, s36, g37, s37, g38, s38, g39, s39] at e3
  have sm := sum_ok area c
  rw [C.ar] at sm
  have W0 : 0 ≤ W := by
    obtain ⟨r, hr, e⟩ := C.mx
    have b := C.inb r hr
    have := b.x0
    have := b.w1
    omega
  have mW := mul_i (i := W) (j := H) (by omega) (by have := C.W2; omega)
  have l1 : decide ((1 : Int) ≤ (c.length : Nat)) = true := decide_eq_true (by have := C.len0; omega)
  have l2 : decide (((c.length : Nat) : Int) ≤ 24) = true := decide_eq_true (by have := C.len1; omega)
  simp only [F10, nn10, runK, sSqK, sIfK, sIfP, tOrK, tAndK, tNotK, tValK, liE, liT, liL, liI, liO, pNotT, pT, p1, p2, pK, pCons, pNil, pYes, pSeq, pAndE, pOrE, pNotE, pAndT, pOrT, pChain, pIf, pTup, pLst, pLc, pDic, pR1, pR2, sRetP, sRetK, sAsP, sAsK, sAoP, sAoK, sDrpK, sPar2K, sPar3K, sForP, sForK, sAppC, mAndK, mOrK, mNotK, mIfK, lConsK, mTupK, mLstK, mMK, m1K, m2K, mLcK, mCallP, mCallK, in_nil, in_cons, re_zero, re_succ, bk_ok, bk_dr, opK_some, opK_none, ooK_some, ooK_none, bK_t, bK_f, hd_cons, tl_cons, s0_cons, st_cons, fl_nx, fl_rt, fl_bk, fl_ct, rt_rt, rt_nx, dB_bl, dI_int, sq_tup, sq_lst, at_tup, al_nil, al_cons, nm_set, isi_tup_t, nh_int, nh_tup, nh_lst, nh_bl, nh_all_nil, nh_all_cons, ln_nil, ln_cons, lc_nil, lc_cons, lk_nil, lk_cons, fo_nil, fo_cons, all_l, any_l, allB_nil, anyB_nil, allB_cons, anyB_cons, ix_t0, ix_l0, ix_l1, ix_t1, ix_t2, ix_t3, pSl, pNo, pPart, pEnum, skip_nx, seq_k, fclk_eq, fck_eq, len_t, len_l, eq_i, ge_i, le_i, lt_i, gt_i, add_i, sub_i, int_i, chl, chle, id_eq, ble_ok, Nat.reduceAdd, List.length_cons, List.length_nil, decide_true, decide_false, Bool.not_true, Bool.not_false, Nat.zero_add, Nat.reduceLeDiff, Int.cast_ofNat_Int, g0, s0, g1, s1, g2, s2, g3, s3, g4, s4, g5, s5, g6, s6, g7, s7, g8, s8, g9, s9, g10, s10, g11, s11, g12, s12, g13, s13, g14, s14, g15, s15, g16, s16, g17, s17, g18, s18, g19, s19, g20, s20, g21, s21, g22, s22, g23, s23, g24, s24, g25, s25, g26, s26, g27, s27, g28, s28, g29, s29, g30, s30, g31, s31, g32, s32, g33, s33, g34, s34, g35, s35, g36, s36, g37, s37, g38, s38, g39, s39, t6t, List.length_map, l1, l2, e1, e2, t8 C, e3, sm, mW]
theorem t11 {W H : Int} {c : List R4} (C : Cut W H c) : F11 [cD c] = .ok .non := by
  simp only [F11, nn11, runK, sSqK, sIfK, sIfP, tOrK, tAndK, tNotK, tValK, liE, liT, liL, liI, liO, pNotT, pT, p1, p2, pK, pCons, pNil, pYes, pSeq, pAndE, pOrE, pNotE, pAndT, pOrT, pChain, pIf, pTup, pLst, pLc, pDic, pR1, pR2, sRetP, sRetK, sAsP, sAsK, sAoP, sAoK, sDrpK, sPar2K, sPar3K, sForP, sForK, sAppC, mAndK, mOrK, mNotK, mIfK, lConsK, mTupK, mLstK, mMK, m1K, m2K, mLcK, mCallP, mCallK, in_nil, in_cons, re_zero, re_succ, bk_ok, bk_dr, opK_some, opK_none, ooK_some, ooK_none, bK_t, bK_f, hd_cons, tl_cons, s0_cons, st_cons, fl_nx, fl_rt, fl_bk, fl_ct, rt_rt, rt_nx, dB_bl, dI_int, sq_tup, sq_lst, at_tup, al_nil, al_cons, nm_set, isi_tup_t, nh_int, nh_tup, nh_lst, nh_bl, nh_all_nil, nh_all_cons, ln_nil, ln_cons, lc_nil, lc_cons, lk_nil, lk_cons, fo_nil, fo_cons, all_l, any_l, allB_nil, anyB_nil, allB_cons, anyB_cons, ix_t0, ix_l0, ix_l1, ix_t1, ix_t2, ix_t3, pSl, pNo, pPart, pEnum, skip_nx, seq_k, fclk_eq, fck_eq, len_t, len_l, eq_i, ge_i, le_i, lt_i, gt_i, add_i, sub_i, int_i, chl, chle, id_eq, ble_ok, Nat.reduceAdd, List.length_cons, List.length_nil, decide_true, decide_false, Bool.not_true, Bool.not_false, Nat.zero_add, Nat.reduceLeDiff, Int.cast_ofNat_Int, g0, s0, g1, s1, g2, s2, g3, s3, g4, s4, g5, s5, g6, s6, g7, s7, g8, s8, g9, s9, g10, s10, g11, s11, g12, s12, g13, s13, g14, s14, g15, s15, g16, s16, g17, s17, g18, s18, g19, s19, g20, s20, g21, s21, g22, s22, g23, s23, g24, s24, g25, s25, g26, s26, g27, s27, g28, s28, g29, s29, g30, s30, g31, s31, g32, s32, g33, s33, g34, s34, g35, s35, g36, s36, g37, s37, g38, s38, g39, s39, t7 C.len0 C.len1 C.pt, t10 C]
end EV
set_option maxHeartbeats 0
namespace EV
open PySem PySem.Spec PyProof.Rows L2
/-! sorting: what holds of lists of one shape -/
theorem heads_map {α : Type} (g : α → D) (t : α → List D) : ∀ l : List α, heads (l.map fun a => g a :: t a) = l.map g
  | [] => rfl
  | x :: r => by show g x :: heads (r.map fun a => g a :: t a) = _; rw [heads_map g t r]; rfl
theorem tails_map {α : Type} (g : α → D) (t : α → List D) : ∀ l : List α, tails (l.map fun a => g a :: t a) = l.map t
  | [] => rfl
  | x :: r => by show t x :: tails (r.map fun a => g a :: t a) = _; rw [tails_map g t r]; rfl
theorem heads_nil {α : Type} : ∀ l : List α, heads (l.map fun _ => []) = []
  | [] => rfl
  | x :: r => heads_nil r
theorem tails_nil {α : Type} : ∀ l : List α, tails (l.map fun _ => []) = []
  | [] => rfl
  | x :: r => tails_nil r
theorem cols_ok {α : Type} {f : List D → Bool} (hf : f [] = true) (l : List α) : ∀ (cs : List (α → D)) (m : Nat), cs.length + 2 ≤ m → (∀ g ∈ cs, f (l.map g) = true) → colsOk f m (l.map fun a => cs.map fun g => g a) = true
  | [], m, hm, _ => by
    obtain ⟨m, rfl⟩ : ∃ k, m = k + 2 := ⟨m - 2, by simp only [List.length_nil] at hm; omega⟩
    cases l with
    | nil => rfl
    | cons x r =>
      show (match f (heads ((x :: r).map fun _ => [])) with | true => colsOk f (m + 1) (tails ((x :: r).map fun _ => [])) | false => false) = true
      rw [heads_nil, tails_nil, hf]
      rfl
  | g :: cs, m, hm, h => by
    obtain ⟨m, rfl⟩ : ∃ k, m = k + 1 := ⟨m - 1, by rw [List.length_cons] at hm; omega⟩
    cases l with
    | nil => rfl
    | cons x r =>
      have e1 := heads_map g (fun a => cs.map fun g => g a) (x :: r)
      have e2 := tails_map g (fun a => cs.map fun g => g a) (x :: r)
      have := cols_ok hf (x :: r) cs m (by rw [List.length_cons] at hm; omega) fun g hg => h g (by simp [hg])
      show (match f (heads ((x :: r).map fun a => g a :: cs.map fun g => g a)) with | true => colsOk f m (tails ((x :: r).map fun a => g a :: cs.map fun g => g a)) | false => false) = true
      rw [e1, e2, h g (by simp)]
      exact this
theorem tups_map {α : Type} (t : α → List D) : ∀ l : List α, tups? (l.map fun a => D.tup (t a)) = some (l.map t)
  | [] => rfl
  | x :: r => by
    show (tups? (r.map fun a => D.tup (t a))).map (fun l => t x :: l) = _
    rw [tups_map t r]
    rfl
theorem homI {α : Type} (n : Nat) (f : α → Int) (l : List α) : homog (n + 1) (l.map fun a => D.int (f a)) = true := by
  cases l with
  | nil => rfl
  | cons x r =>
    show ((x :: r).map fun a => D.int (f a)).all isI = true
    rw [List.all_eq_true]
    intro d hd
    obtain ⟨a, _, rfl⟩ := List.mem_map.mp hd
    rfl
theorem homT {α : Type} (n : Nat) (l : List α) (cs : List (α → D)) (hc : cs.length ≤ 9) (h : ∀ g ∈ cs, homog (n + 1) (l.map g) = true) : homog (n + 2) (l.map fun a => D.tup (cs.map fun g => g a)) = true := by
  cases l with
  | nil => rfl
  | cons x r =>
    show (match tups? ((x :: r).map fun a => D.tup (cs.map fun g => g a)) with | some yss => colsOk (homog (n + 1)) 100000 yss | none => false) = true
    rw [tups_map (fun a => cs.map fun g => g a)]
    exact cols_ok rfl (x :: r) cs 100000 (by omega) h
abbrev gtD (a b : D) : Bool := ltf 60 b a
theorem sort_of {xs : List D} (h : homog 60 xs = true) (h2 : ∀ x ∈ xs, x ≠ .tup []) : sortOpK xs = some (.lst (sortR gtD xs)) := by
  rw [sortOpK_eq]
  unfold sortOp
  rw [h, Bool.true_and]
  split
  · rfl
  · rename_i e
    exfalso
    rw [List.all_eq_false] at e
    obtain ⟨x, hx, hn⟩ := e
    have := h2 x hx
    apply hn
    cases x with
    | tup ys =>
      cases ys with
      | nil => exact absurd rfl this
      | cons _ _ => rfl
    | _ => rfl
theorem sort_t (xs : List D) : oSortK (.tup xs) = sortOpK xs := rfl
theorem sort_l (xs : List D) : oSortK (.lst xs) = sortOpK xs := rfl
abbrev P2 := Int × Int
def P2.d (p : P2) : D := .tup [.int p.1, .int p.2]
/-- (a, 1) four times -/
def one (i : Int) : D := .tup [.int i, .int 1]
def R4.o (r : R4) : D := .tup [one r.x, one r.y, one r.w, one r.h]
theorem hom4 (c : List R4) : homog 60 (c.map R4.d) = true := homT 58 c [fun r => .int r.x, fun r => .int r.y, fun r => .int r.w, fun r => .int r.h] (by simp) (by
  intro g hg
  simp only [List.mem_cons, List.not_mem_nil, or_false] at hg
  rcases hg with rfl | rfl | rfl | rfl <;> exact homI 58 _ c)
theorem hom1 {α : Type} (f : α → Int) (c : List α) : homog 59 (c.map fun r => one (f r)) = true := homT 57 c [fun r => .int (f r), fun _ => .int 1] (by simp) (by
  intro g hg
  simp only [List.mem_cons, List.not_mem_nil, or_false] at hg
  rcases hg with rfl | rfl <;> exact homI 57 _ c)
theorem homo (c : List R4) : homog 60 (c.map R4.o) = true := homT 58 c [fun r => one r.x, fun r => one r.y, fun r => one r.w, fun r => one r.h] (by simp) (by
  intro g hg
  simp only [List.mem_cons, List.not_mem_nil, or_false] at hg
  rcases hg with rfl | rfl | rfl | rfl <;> exact hom1 _ c)
theorem hom2 (c : List P2) : homog 60 (c.map P2.d) = true := homT 58 c [fun r => .int r.1, fun r => .int r.2] (by simp) (by
  intro g hg
  simp only [List.mem_cons, List.not_mem_nil, or_false] at hg
  rcases hg with rfl | rfl <;> exact homI 58 _ c)
theorem ne_map {α : Type} {g : α → D} (c : List α) (h : ∀ a, g a ≠ .tup []) : ∀ x ∈ c.map g, x ≠ .tup [] := by
  intro x hx
  obtain ⟨a, _, rfl⟩ := List.mem_map.mp hx
  exact h a
theorem sort4 (c : List R4) : sortOpK (c.map R4.d) = some (.lst (sortR gtD (c.map R4.d))) := sort_of (hom4 c) (ne_map c fun a h => by cases h)
theorem sorto (c : List R4) : sortOpK (c.map R4.o) = some (.lst (sortR gtD (c.map R4.o))) := sort_of (homo c) (ne_map c fun a h => by cases h)
theorem sort2 (c : List P2) : sortOpK (c.map P2.d) = some (.lst (sortR gtD (c.map P2.d))) := sort_of (hom2 c) (ne_map c fun a h => by cases h)
/-! sorted in the end -/
theorem insR_map {α : Type} {g : α → D} {gt : α → α → Bool} (h : ∀ a b, gtD (g a) (g b) = gt a b) (a : α) : ∀ l : List α, insR gtD (g a) (l.map g) = (insR gt a l).map g
  | [] => rfl
  | x :: r => by
    show (match gtD (g a) (g x) with | true => g x :: insR gtD (g a) (r.map g) | false => g a :: g x :: r.map g) = (match gt a x with | true => x :: insR gt a r | false => a :: x :: r).map g
    rw [h, insR_map h a r]
    cases gt a x <;> rfl
theorem sortR_map {α : Type} {g : α → D} {gt : α → α → Bool} (h : ∀ a b, gtD (g a) (g b) = gt a b) : ∀ l : List α, sortR gtD (l.map g) = (sortR gt l).map g
  | [] => rfl
  | x :: r => by
    show insR gtD (g x) (sortR gtD (r.map g)) = (insR gt x (sortR gt r)).map g
    rw [sortR_map h r, insR_map h]
def upTo {α : Type} (gt : α → α → Bool) : List α → Prop
  | [] => True
  | x :: r => (∀ y, r.head? = some y → gt x y = false) ∧ upTo gt r
theorem insR_head {α : Type} {gt : α → α → Bool} {d : α} : ∀ {l : List α} {y : α}, (insR gt d l).head? = some y → y = d ∨ l.head? = some y
  | [], y, h => .inl (by cases h; rfl)
  | x :: r, y, h => by
    have h : (match gt d x with | true => x :: insR gt d r | false => d :: x :: r).head? = some y := h
    cases e : gt d x with
    | true => rw [e] at h; exact .inr h
    | false => rw [e] at h; cases h; exact .inl rfl
theorem insR_up {α : Type} {gt : α → α → Bool} (ha : ∀ a b, gt a b = true → gt b a = false) {d : α} : ∀ {l : List α}, upTo gt l → upTo gt (insR gt d l)
  | [], _ => ⟨fun y h => (nomatch h), trivial⟩
  | x :: r, h => by
    show upTo gt (match gt d x with | true => x :: insR gt d r | false => d :: x :: r)
    cases e : gt d x with
    | true =>
      refine ⟨fun y hy => ?_, insR_up ha h.2⟩
      rcases insR_head hy with rfl | q
      · exact ha _ _ e
      · exact h.1 y q
    | false => exact ⟨fun y hy => by cases hy; exact e, h⟩
theorem sortR_up {α : Type} {gt : α → α → Bool} (ha : ∀ a b, gt a b = true → gt b a = false) : ∀ l : List α, upTo gt (sortR gt l)
  | [] => trivial
  | x :: r => insR_up ha (sortR_up ha r)
theorem sortR_id {α : Type} {gt : α → α → Bool} : ∀ {l : List α}, upTo gt l → sortR gt l = l
  | [], _ => rfl
  | x :: r, h => by
    show insR gt x (sortR gt r) = _
    rw [sortR_id h.2]
    cases r with
    | nil => rfl
    | cons y r =>
      show (match gt x y with | true => y :: insR gt x r | false => x :: y :: r) = _
      rw [h.1 y rfl]
def gt4 (a b : R4) : Bool := match decide (b.x = a.x) with
  | true => match decide (b.y = a.y) with
    | true => match decide (b.w = a.w) with
      | true => match decide (b.h = a.h) with
        | true => false
        | false => decide (b.h < a.h)
      | false => decide (b.w < a.w)
    | false => decide (b.y < a.y)
  | false => decide (b.x < a.x)
theorem gt4_asym (a b : R4) (h : gt4 a b = true) : gt4 b a = false := by
  unfold gt4 at *
  repeat' split at h
  all_goals
    simp only [decide_eq_true_eq, decide_eq_false_iff_not] at *
    repeat' split
    all_goals
      simp only [decide_eq_true_eq, decide_eq_false_iff_not] at *
      try omega
theorem lt1 (i j : Int) (n : Nat) : ltf (n + 2) (one i) (one j) = decide (i < j) := by
  show (match decide (i = j) with | true => (match decide ((1 : Int) = 1) with | true => false | false => decide ((1 : Int) < 1)) | false => decide (i < j)) = _
  cases e : decide (i = j) with
  | true => rw [decide_eq_true_eq] at e; exact (decide_eq_false (by omega)).symm
  | false => rfl
theorem eq1 (i j : Int) (n : Nat) : eqf (n + 2) (one i) (one j) = decide (i = j) := by
  show (match decide (i = j) with | true => (match decide ((1 : Int) = 1) with | true => true | false => false) | false => false) = _
  cases decide (i = j) <;> rfl
theorem gtd4 (a b : R4) : gtD a.d b.d = gt4 a b := rfl
theorem gto4 (a b : R4) : gtD a.o b.o = gt4 a b := by
  show (match eqf 59 (one b.x) (one a.x) with | true => (match eqf 59 (one b.y) (one a.y) with | true => (match eqf 59 (one b.w) (one a.w) with | true => (match eqf 59 (one b.h) (one a.h) with | true => false | false => ltf 59 (one b.h) (one a.h)) | false => ltf 59 (one b.w) (one a.w)) | false => ltf 59 (one b.y) (one a.y)) | false => ltf 59 (one b.x) (one a.x)) = _
  rw [eq1, eq1, eq1, eq1, lt1, lt1, lt1, lt1]
  rfl
theorem sorto4 (l : List R4) : sortR gtD ((sortR gt4 l).map R4.o) = sortR gtD (l.map R4.o) := by
  rw [sortR_map gto4, sortR_map gto4, sortR_id (sortR_up gt4_asym l)]
theorem sortd4 (l : List R4) : sortR gtD (l.map R4.d) = (sortR gt4 l).map R4.d := sortR_map gtd4 l
/-! the same -/
theorem eqs_refl {f : D → D → Bool} : ∀ {xs : List D}, (∀ x ∈ xs, f x x = true) → eqs f xs xs = true
  | [], _ => rfl
  | x :: r, h => by
    show (match f x x with | true => eqs f r r | false => false) = true
    rw [h x (by simp)]
    exact eqs_refl fun y hy => h y (by simp [hy])
theorem eqf_refl : ∀ {n : Nat} {d : D}, dok n d = true → eqf n d d = true
  | 0, _, h => nomatch h
  | n + 1, d, h => by
    cases d with
    | int i => exact decide_eq_true rfl
    | bl b => cases b <;> rfl
    | str s => show (s == s) = true; exact beq_self_eq_true s
    | non => rfl
    | tup xs => exact eqs_refl fun x hx => eqf_refl (List.all_eq_true.mp h x hx)
    | lst xs => exact eqs_refl fun x hx => eqf_refl (List.all_eq_true.mp h x hx)
    | _ => cases h
theorem eq_same {f : Bool → Bool} {d : D} (h : dok 60 d = true) : oEqFK f d d = some (.bl (f true)) := by
  rw [oEqFK_eq]
  have s : slowEq f d d = some (.bl (f true)) := by
    unfold slowEq
    have : isH d = false := by cases d <;> first | rfl | cases h
    rw [this, h, eqf_refl h]
    rfl
  cases d with
  | int i =>
    show some (D.bl (f (decide (i = i)))) = _
    rw [decide_eq_true rfl]
  | _ => exact s
theorem dok_l {xs : List D} (h : ∀ x ∈ xs, dok 59 x = true) : dok 60 (.lst xs) = true := List.all_eq_true.mpr h
theorem dok_t {xs : List D} (h : ∀ x ∈ xs, dok 59 x = true) : dok 60 (.tup xs) = true := List.all_eq_true.mpr h
theorem dok_m {α : Type} {g : α → D} (h : ∀ a, dok 59 (g a) = true) (c : List α) : ∀ x ∈ c.map g, dok 59 x = true := by
  intro x hx
  obtain ⟨a, _, rfl⟩ := List.mem_map.mp hx
  exact h a
theorem dok_s {xs : List D} (h : ∀ x ∈ xs, dok 59 x = true) : dok 60 (.lst (sortR gtD xs)) = true := dok_l fun x hx => h x (mem_sortR.mp hx)
theorem eqs4 {f : Bool → Bool} (c : List R4) : oEqFK f (.lst (sortR gtD (c.map R4.d))) (.lst (sortR gtD (c.map R4.d))) = some (.bl (f true)) := eq_same (dok_s (dok_m (fun _ => rfl) c))
theorem eqso {f : Bool → Bool} (c : List R4) : oEqFK f (.lst (sortR gtD (c.map R4.o))) (.lst (sortR gtD (c.map R4.o))) = some (.bl (f true)) := eq_same (dok_s (dok_m (fun _ => rfl) c))
theorem eqs2 {f : Bool → Bool} (c : List P2) : oEqFK f (.lst (sortR gtD (c.map P2.d))) (.lst (sortR gtD (c.map P2.d))) = some (.bl (f true)) := eq_same (dok_s (dok_m (fun _ => rfl) c))
end EV
set_option maxHeartbeats 0
namespace EV
open PySem PySem.Spec PyProof.Rows L2
def tr (r : R4) : R4 := ⟨r.y, r.x, r.h, r.w⟩
def mi (W : Int) (r : R4) : R4 := ⟨W - r.x - r.w, r.y, r.w, r.h⟩
def gr (k : Int) (r : R4) : R4 := ⟨r.x * k, r.y * k, r.w * k, r.h * k⟩
theorem meet_eq (a b : R4) : meet a b = ((decide (a.x < b.x + b.w) && decide (b.x < a.x + a.w)) && (decide (a.y < b.y + b.h) && decide (b.y < a.y + a.h))) := by
  unfold meet
  cases decide (a.x < b.x + b.w) <;> cases decide (b.x < a.x + a.w) <;> cases decide (a.y < b.y + b.h) <;> cases decide (b.y < a.y + a.h) <;> rfl
theorem meet_tr (a b : R4) : meet (tr a) (tr b) = meet a b := by
  rw [meet_eq, meet_eq]
  exact Bool.and_comm _ _
theorem meet_mi (W : Int) (a b : R4) : meet (mi W a) (mi W b) = meet a b := by
  rw [meet_eq, meet_eq]
  show ((decide (W - a.x - a.w < W - b.x - b.w + b.w) && decide (W - b.x - b.w < W - a.x - a.w + a.w)) && _) = _
  rw [show decide (W - a.x - a.w < W - b.x - b.w + b.w) = decide (b.x < a.x + a.w) from decide_eq_decide.mpr (by omega), show decide (W - b.x - b.w < W - a.x - a.w + a.w) = decide (a.x < b.x + b.w) from decide_eq_decide.mpr (by omega)]
  rw [Bool.and_comm (decide (b.x < a.x + a.w))]
  rfl
theorem lt_mul {k : Int} (hk : 1 ≤ k) (a b c : Int) : decide (a * k < b * k + c * k) = decide (a < b + c) := by
  rw [← Int.add_mul]
  exact decide_eq_decide.mpr ⟨fun h => by
    have := Int.mul_lt_mul_right (a := k) (b := a) (c := b + c) (by omega)
    exact this.mp h, fun h => (Int.mul_lt_mul_right (a := k) (by omega)).mpr h⟩
theorem meet_gr {k : Int} (hk : 1 ≤ k) (a b : R4) : meet (gr k a) (gr k b) = meet a b := by
  rw [meet_eq, meet_eq]
  show ((decide (a.x * k < b.x * k + b.w * k) && decide (b.x * k < a.x * k + a.w * k)) && (decide (a.y * k < b.y * k + b.h * k) && decide (b.y * k < a.y * k + a.h * k))) = _
  rw [lt_mul hk, lt_mul hk, lt_mul hk, lt_mul hk]
theorem map_map2 {α β γ : Type} (f : α → β) (g : β → γ) (l : List α) : (l.map f).map g = l.map fun a => g (f a) := by
  rw [List.map_map]; rfl
section
variable {W H : Int} {c : List R4} (C : Cut W H c)
include C
theorem Cut.tr : Cut H W (c.map EV.tr) where
  len0 := by rw [List.length_map]; exact C.len0
  len1 := by rw [List.length_map]; exact C.len1
  W2 := C.H2
  H2 := C.W2
  inb r hr := by
    obtain ⟨q, hq, rfl⟩ := List.mem_map.mp hr
    have b := C.inb q hq
    exact ⟨b.y0, b.x0, b.h1, b.w1, b.yh, b.xw⟩
  dj := by
    rw [List.pairwise_map]
    exact C.dj.imp fun {a b} h => by rw [meet_tr]; exact h
  ar := by
    rw [map_map2, Int.mul_comm, ← C.ar]
    congr 2
    funext r
    exact Int.mul_comm _ _
  mx := by obtain ⟨r, hr, e⟩ := C.my; exact ⟨EV.tr r, List.mem_map_of_mem hr, e⟩
  my := by obtain ⟨r, hr, e⟩ := C.mx; exact ⟨EV.tr r, List.mem_map_of_mem hr, e⟩
  nx := by obtain ⟨r, hr, e⟩ := C.ny; exact ⟨EV.tr r, List.mem_map_of_mem hr, e⟩
  ny := by obtain ⟨r, hr, e⟩ := C.nx; exact ⟨EV.tr r, List.mem_map_of_mem hr, e⟩
theorem Cut.mi : Cut W H (c.map (EV.mi W)) where
  len0 := by rw [List.length_map]; exact C.len0
  len1 := by rw [List.length_map]; exact C.len1
  W2 := C.W2
  H2 := C.H2
  inb r hr := by
    obtain ⟨q, hq, rfl⟩ := List.mem_map.mp hr
    have b := C.inb q hq
    have := b.x0
    have := b.xw
    exact ⟨by show 0 ≤ W - q.x - q.w; omega, b.y0, b.w1, b.h1, by show W - q.x - q.w + q.w ≤ W; omega, b.yh⟩
  dj := by
    rw [List.pairwise_map]
    exact C.dj.imp fun {a b} h => by rw [meet_mi]; exact h
  ar := by
    rw [map_map2, ← C.ar]
    rfl
  mx := by obtain ⟨r, hr, e⟩ := C.nx; exact ⟨EV.mi W r, List.mem_map_of_mem hr, by show W - r.x - r.w + r.w = W; omega⟩
  my := by obtain ⟨r, hr, e⟩ := C.my; exact ⟨EV.mi W r, List.mem_map_of_mem hr, e⟩
  nx := by obtain ⟨r, hr, e⟩ := C.mx; exact ⟨EV.mi W r, List.mem_map_of_mem hr, by show W - r.x - r.w = 0; omega⟩
  ny := by obtain ⟨r, hr, e⟩ := C.ny; exact ⟨EV.mi W r, List.mem_map_of_mem hr, e⟩
omit C in
theorem sumI_mul (k : Int) : ∀ l : List Int, sumI (l.map fun a => a * k) = sumI l * k
  | [] => (Int.zero_mul k).symm
  | x :: r => by
    have e1 : sumI ((x :: r).map fun a => a * k) = x * k + sumI (r.map fun a => a * k) := rfl
    have e2 : sumI (x :: r) = x + sumI r := rfl
    rw [e1, e2, sumI_mul k r, Int.add_mul]
theorem Cut.gr {k : Int} (hk : 1 ≤ k) (h1 : W * k ≤ 200) (h2 : H * k ≤ 200) : Cut (W * k) (H * k) (c.map (EV.gr k)) where
  len0 := by rw [List.length_map]; exact C.len0
  len1 := by rw [List.length_map]; exact C.len1
  W2 := h1
  H2 := h2
  inb r hr := by
    obtain ⟨q, hq, rfl⟩ := List.mem_map.mp hr
    have b := C.inb q hq
    have p0 : ∀ {x : Int}, 0 ≤ x → 0 ≤ x * k := fun h => Int.mul_nonneg h (by omega)
    have p1 : ∀ {x : Int}, 1 ≤ x → 1 ≤ x * k := fun {x} h => by
      have := Int.mul_pos (show 0 < x by omega) (show 0 < k by omega)
      omega
    refine ⟨p0 b.x0, p0 b.y0, p1 b.w1, p1 b.h1, ?_, ?_⟩
    · show q.x * k + q.w * k ≤ W * k
      rw [← Int.add_mul]
      exact Int.mul_le_mul_of_nonneg_right b.xw (by omega)
    · show q.y * k + q.h * k ≤ H * k
      rw [← Int.add_mul]
      exact Int.mul_le_mul_of_nonneg_right b.yh (by omega)
  dj := by
    rw [List.pairwise_map]
    exact C.dj.imp fun {a b} h => by rw [meet_gr hk]; exact h
  ar := by
    rw [map_map2]
    have : (c.map fun a => area (EV.gr k a)) = ((c.map area).map fun a => a * (k * k)) := by
      rw [map_map2]
      congr 1
      funext a
      show a.w * k * (a.h * k) = a.w * a.h * (k * k)
      simp only [Int.mul_comm, Int.mul_left_comm, Int.mul_assoc]
    rw [this, sumI_mul, C.ar]
    simp only [Int.mul_comm, Int.mul_left_comm, Int.mul_assoc]
  mx := by obtain ⟨r, hr, e⟩ := C.mx; exact ⟨EV.gr k r, List.mem_map_of_mem hr, by show r.x * k + r.w * k = W * k; rw [← Int.add_mul, e]⟩
  my := by obtain ⟨r, hr, e⟩ := C.my; exact ⟨EV.gr k r, List.mem_map_of_mem hr, by show r.y * k + r.h * k = H * k; rw [← Int.add_mul, e]⟩
  nx := by obtain ⟨r, hr, e⟩ := C.nx; exact ⟨EV.gr k r, List.mem_map_of_mem hr, by show r.x * k = 0; rw [e, Int.zero_mul]⟩
  ny := by obtain ⟨r, hr, e⟩ := C.ny; exact ⟨EV.gr k r, List.mem_map_of_mem hr, by show r.y * k = 0; rw [e, Int.zero_mul]⟩
theorem Cut.W1 : 1 ≤ W := by
  obtain ⟨r, hr, e⟩ := C.mx
  have b := C.inb r hr
  have := b.x0
  have := b.w1
  omega
theorem Cut.H1 : 1 ≤ H := C.tr.W1
end
theorem sumI_app : ∀ (a b : List Int), sumI (a ++ b) = sumI a + sumI b
  | [], b => (Int.zero_add _).symm
  | x :: r, b => by
    have e1 : sumI (x :: r ++ b) = x + sumI (r ++ b) := rfl
    have e2 : sumI (x :: r) = x + sumI r := rfl
    rw [e1, e2, sumI_app r b, Int.add_assoc]
def sq (W H : Int) (b : Bool) : R4 := match b with | true => ⟨W, 0, H, H⟩ | false => ⟨0, H, W, W⟩
theorem Cut.sqt {W H : Int} {c : List R4} (C : Cut W H c) (hl : c.length < 24) (h : W + H ≤ 200) : Cut (W + H) H (c ++ [sq W H true]) where
  len0 := by rw [List.length_append]; have := C.len0; omega
  len1 := by rw [List.length_append]; show c.length + 1 ≤ 24; omega
  W2 := h
  H2 := C.H2
  inb r hr := by
    rcases List.mem_append.mp hr with q | q
    · have b := C.inb r q
      have := C.H1
      have := b.xw
      exact ⟨b.x0, b.y0, b.w1, b.h1, by omega, b.yh⟩
    · cases List.mem_singleton.mp q
      have := C.W1
      have := C.H1
      exact ⟨by show 0 ≤ W; omega, by show (0 : Int) ≤ 0; omega, C.H1, C.H1, by show W + H ≤ W + H; omega, by show 0 + H ≤ H; omega⟩
  dj := by
    rw [List.pairwise_append]
    refine ⟨C.dj, List.pairwise_singleton _ _, fun a ha b hb => ?_⟩
    cases List.mem_singleton.mp hb
    have i := C.inb a ha
    rw [meet_eq]
    have : decide (W < a.x + a.w) = false := decide_eq_false (by have := i.xw; omega)
    show ((decide (W < a.x + a.w) && _) && _) = false
    rw [this]
    rfl
  ar := by
    rw [List.map_append, sumI_app, C.ar, Int.add_mul]
    show W * H + (H * H + 0) = _
    rw [Int.add_zero]
  mx := ⟨sq W H true, List.mem_append_right _ (List.mem_singleton_self _), rfl⟩
  my := by obtain ⟨r, hr, e⟩ := C.my; exact ⟨r, by simp [hr], e⟩
  nx := by obtain ⟨r, hr, e⟩ := C.nx; exact ⟨r, by simp [hr], e⟩
  ny := by obtain ⟨r, hr, e⟩ := C.ny; exact ⟨r, by simp [hr], e⟩
theorem Cut.sqf {W H : Int} {c : List R4} (C : Cut W H c) (hl : c.length < 24) (h : H + W ≤ 200) : Cut W (H + W) (c ++ [sq W H false]) := by
  have := (C.tr.sqt (by rw [List.length_map]; exact hl) h).tr
  rw [List.map_append, map_map2, show (fun a => EV.tr (EV.tr a)) = id from rfl, List.map_id] at this
  exact this
end EV
set_option maxHeartbeats 0
namespace EV
open PySem PySem.Spec PyProof.Rows L2
theorem drp_call {φ : List D → R D} {l : PL} {st : AS} {xs : List D} {v : D} (h1 : l st = some xs) (h2 : φ xs = .ok v) : sDrpK (mCallP φ l) st = .ok (.nx st) := by
  unfold sDrpK
  rw [callP_ok h1 h2]
  rfl
section
variable {W H : Int} {c : List R4} (C : Cut W H c)
include C
theorem t12 : F12 [cD c] = .ok (.bl (c.all fun r => decide (r.w = r.h))) := by
  have e1 := lcP_mapg (A := aNm s1) (st := [some (cD c), none]) (c := pYes) (e := p2 (oEqFK id) (p2 oIxK g1 (pK (.int 2))) (p2 oIxK g1 (pK (.int 3)))) (g := R4.d) (h := fun r => .bl (decide (r.w = r.h))) c 0 (fun r hr => ⟨[some (cD c), some r.d], rfl, rfl, by simp only [R4.d, runK, sSqK, sIfK, sIfP, tOrK, tAndK, tNotK, tValK, liE, liT, liL, liI, liO, pNotT, pT, p1, p2, pK, pCons, pNil, pYes, pSeq, pAndE, pOrE, pNotE, pAndT, pOrT, pChain, pIf, pTup, pLst, pLc, pDic, pR1, pR2, sRetP, sRetK, sAsP, sAsK, sAoP, sAoK, sDrpK, sPar2K, sPar3K, sForP, sForK, sAppC, mAndK, mOrK, mNotK, mIfK, lConsK, mTupK, mLstK, mMK, m1K, m2K, mLcK, mCallP, mCallK, in_nil, in_cons, re_zero, re_succ, bk_ok, bk_dr, opK_some, opK_none, ooK_some, ooK_none, bK_t, bK_f, hd_cons, tl_cons, s0_cons, st_cons, fl_nx, fl_rt, fl_bk, fl_ct, rt_rt, rt_nx, dB_bl, dI_int, sq_tup, sq_lst, at_tup, al_nil, al_cons, nm_set, isi_tup_t, nh_int, nh_tup, nh_lst, nh_bl, nh_all_nil, nh_all_cons, ln_nil, ln_cons, lc_nil, lc_cons, lk_nil, lk_cons, fo_nil, fo_cons, all_l, any_l, allB_nil, anyB_nil, allB_cons, anyB_cons, ix_t0, ix_l0, ix_l1, ix_t1, ix_t2, ix_t3, pSl, pNo, pPart, pEnum, skip_nx, seq_k, fclk_eq, fck_eq, len_t, len_l, eq_i, ge_i, le_i, lt_i, gt_i, add_i, sub_i, int_i, chl, chle, id_eq, ble_ok, Nat.reduceAdd, List.length_cons, List.length_nil, decide_true, decide_false, Bool.not_true, Bool.not_false, Nat.zero_add, Nat.reduceLeDiff, Int.cast_ofNat_Int, g0, s0, g1, s1, g2, s2, g3, s3, g4, s4, g5, s5, g6, s6, g7, s7, g8, s8, g9, s9, g10, s10, g11, s11, g12, s12, g13, s13, g14, s14, g15, s15, g16, s16, g17, s17, g18, s18, g19, s19, g20, s20, g21, s21, g22, s22, g23, s23, g24, s24, g25, s25, g26, s26, g27, s27, g28, s28, g29, s29, g30, s30, g31, s31, g32, s32, g33, s33, g34, s34, g35, s35, g36, s36, g37, s37, g38, s38, g39, s39], rfl⟩) (lenb C)
  have e2 := allB_mapg (fun r : R4 => decide (r.w = r.h)) c
  simp only [runK, sSqK, sIfK, sIfP, tOrK, tAndK, tNotK, tValK, liE, liT, liL, liI, liO, pNotT, pT, p1, p2, pK, pCons, pNil, pYes, pSeq, pAndE, pOrE, pNotE, pAndT, pOrT, pChain, pIf, pTup, pLst, pLc, pDic, pR1, pR2, sRetP, sRetK, sAsP, sAsK, sAoP, sAoK, sDrpK, sPar2K, sPar3K, sForP, sForK, sAppC, mAndK, mOrK, mNotK, mIfK, lConsK, mTupK, mLstK, mMK, m1K, m2K, mLcK, mCallP, mCallK, in_nil, in_cons, re_zero, re_succ, bk_ok, bk_dr, opK_some, opK_none, ooK_some, ooK_none, bK_t, bK_f, hd_cons, tl_cons, s0_cons, st_cons, fl_nx, fl_rt, fl_bk, fl_ct, rt_rt, rt_nx, dB_bl, dI_int, sq_tup, sq_lst, at_tup, al_nil, al_cons, nm_set, isi_tup_t, nh_int, nh_tup, nh_lst, nh_bl, nh_all_nil, nh_all_cons, ln_nil, ln_cons, lc_nil, lc_cons, lk_nil, lk_cons, fo_nil, fo_cons, all_l, any_l, allB_nil, anyB_nil, allB_cons, anyB_cons, ix_t0, ix_l0, ix_l1, ix_t1, ix_t2, ix_t3, pSl, pNo, pPart, pEnum, skip_nx, seq_k, fclk_eq, fck_eq, len_t, len_l, eq_i, ge_i, le_i, lt_i, gt_i, add_i, sub_i, int_i, chl, chle, id_eq, ble_ok, Nat.reduceAdd, List.length_cons, List.length_nil, decide_true, decide_false, Bool.not_true, Bool.not_false, Nat.zero_add, Nat.reduceLeDiff, Int.cast_ofNat_Int, g0, s0, g1, s1, g2, s2, g3, s3, g4, s4, g5, s5, g6, s6, g7, s7, g8, s8, g9, s9, g10, s10, g11, s11, g12, s12, g13, s13, g14, s14, g15, s15, g16, s16, g17, s17, g18, s18, g19, s19, g20, s20, g21, s21, g22, s22, g23, s23, g24, s24, g25, s25, g26, s26, g27, s27, g28, s28, g29, s29, g30, s30, g31, s31, g32, s32, g33, s33, g34, s34, g35, s35, g36, s36, g37, s37, g38, s38, g39, s39] at e1
  simp only [F12, nn12, runK, sSqK, sIfK, sIfP, tOrK, tAndK, tNotK, tValK, liE, liT, liL, liI, liO, pNotT, pT, p1, p2, pK, pCons, pNil, pYes, pSeq, pAndE, pOrE, pNotE, pAndT, pOrT, pChain, pIf, pTup, pLst, pLc, pDic, pR1, pR2, sRetP, sRetK, sAsP, sAsK, sAoP, sAoK, sDrpK, sPar2K, sPar3K, sForP, sForK, sAppC, mAndK, mOrK, mNotK, mIfK, lConsK, mTupK, mLstK, mMK, m1K, m2K, mLcK, mCallP, mCallK, in_nil, in_cons, re_zero, re_succ, bk_ok, bk_dr, opK_some, opK_none, ooK_some, ooK_none, bK_t, bK_f, hd_cons, tl_cons, s0_cons, st_cons, fl_nx, fl_rt, fl_bk, fl_ct, rt_rt, rt_nx, dB_bl, dI_int, sq_tup, sq_lst, at_tup, al_nil, al_cons, nm_set, isi_tup_t, nh_int, nh_tup, nh_lst, nh_bl, nh_all_nil, nh_all_cons, ln_nil, ln_cons, lc_nil, lc_cons, lk_nil, lk_cons, fo_nil, fo_cons, all_l, any_l, allB_nil, anyB_nil, allB_cons, anyB_cons, ix_t0, ix_l0, ix_l1, ix_t1, ix_t2, ix_t3, pSl, pNo, pPart, pEnum, skip_nx, seq_k, fclk_eq, fck_eq, len_t, len_l, eq_i, ge_i, le_i, lt_i, gt_i, add_i, sub_i, int_i, chl, chle, id_eq, ble_ok, Nat.reduceAdd, List.length_cons, List.length_nil, decide_true, decide_false, Bool.not_true, Bool.not_false, Nat.zero_add, Nat.reduceLeDiff, Int.cast_ofNat_Int, g0, s0, g1, s1, g2, s2, g3, s3, g4, s4, g5, s5, g6, s6, g7, s7, g8, s8, g9, s9, g10, s10, g11, s11, g12, s12, g13, s13, g14, s14, g15, s15, g16, s16, g17, s17, g18, s18, g19, s19, g20, s20, g21, s21, g22, s22, g23, s23, g24, s24, g25, s25, g26, s26, g27, s27, g28, s28, g29, s29, g30, s30, g31, s31, g32, s32, g33, s33, g34, s34, g35, s35, g36, s36, g37, s37, g38, s38, g39, s39, t11 C, e1, e2]
theorem t16 : F16 [cD c] = .ok (cD (c.map tr)) := by
  have e1 := lcP_mapg (A := aNm s1) (st := [some (cD c), none]) (c := pYes) (e := (pTup (pCons (p2 oIxK g1 (pK (.int 1))) (pCons (p2 oIxK g1 (pK (.int 0))) (pCons (p2 oIxK g1 (pK (.int 3))) (pCons (p2 oIxK g1 (pK (.int 2))) pNil)))))) (g := R4.d) (h := fun r => (tr r).d) c 0 (fun r hr => ⟨[some (cD c), some r.d], rfl, rfl, by simp only [R4.d, tr, runK, sSqK, sIfK, sIfP, tOrK, tAndK, tNotK, tValK, liE, liT, liL, liI, liO, pNotT, pT, p1, p2, pK, pCons, pNil, pYes, pSeq, pAndE, pOrE, pNotE, pAndT, pOrT, pChain, pIf, pTup, pLst, pLc, pDic, pR1, pR2, sRetP, sRetK, sAsP, sAsK, sAoP, sAoK, sDrpK, sPar2K, sPar3K, sForP, sForK, sAppC, mAndK, mOrK, mNotK, mIfK, lConsK, mTupK, mLstK, mMK, m1K, m2K, mLcK, mCallP, mCallK, in_nil, in_cons, re_zero, re_succ, bk_ok, bk_dr, opK_some, opK_none, ooK_some, ooK_none, bK_t, bK_f, hd_cons, tl_cons, s0_cons, st_cons, fl_nx, fl_rt, fl_bk, fl_ct, rt_rt, rt_nx, dB_bl, dI_int, sq_tup, sq_lst, at_tup, al_nil, al_cons, nm_set, isi_tup_t, nh_int, nh_tup, nh_lst, nh_bl, nh_all_nil, nh_all_cons, ln_nil, ln_cons, lc_nil, lc_cons, lk_nil, lk_cons, fo_nil, fo_cons, all_l, any_l, allB_nil, anyB_nil, allB_cons, anyB_cons, ix_t0, ix_l0, ix_l1, ix_t1, ix_t2, ix_t3, pSl, pNo, pPart, pEnum, skip_nx, seq_k, fclk_eq, fck_eq, len_t, len_l, eq_i, ge_i, le_i, lt_i, gt_i, add_i, sub_i, int_i, chl, chle, id_eq, ble_ok, Nat.reduceAdd, List.length_cons, List.length_nil, decide_true, decide_false, Bool.not_true, Bool.not_false, Nat.zero_add, Nat.reduceLeDiff, Int.cast_ofNat_Int, g0, s0, g1, s1, g2, s2, g3, s3, g4, s4, g5, s5, g6, s6, g7, s7, g8, s8, g9, s9, g10, s10, g11, s11, g12, s12, g13, s13, g14, s14, g15, s15, g16, s16, g17, s17, g18, s18, g19, s19, g20, s20, g21, s21, g22, s22, g23, s23, g24, s24, g25, s25, g26, s26, g27, s27, g28, s28, g29, s29, g30, s30, g31, s31, g32, s32, g33, s33, g34, s34, g35, s35, g36, s36, g37, s37, g38, s38, g39, s39], rfl⟩) (lenb C)
  simp only [runK, sSqK, sIfK, sIfP, tOrK, tAndK, tNotK, tValK, liE, liT, liL, liI, liO, pNotT, pT, p1, p2, pK, pCons, pNil, pYes, pSeq, pAndE, pOrE, pNotE, pAndT, pOrT, pChain, pIf, pTup, pLst, pLc, pDic, pR1, pR2, sRetP, sRetK, sAsP, sAsK, sAoP, sAoK, sDrpK, sPar2K, sPar3K, sForP, sForK, sAppC, mAndK, mOrK, mNotK, mIfK, lConsK, mTupK, mLstK, mMK, m1K, m2K, mLcK, mCallP, mCallK, in_nil, in_cons, re_zero, re_succ, bk_ok, bk_dr, opK_some, opK_none, ooK_some, ooK_none, bK_t, bK_f, hd_cons, tl_cons, s0_cons, st_cons, fl_nx, fl_rt, fl_bk, fl_ct, rt_rt, rt_nx, dB_bl, dI_int, sq_tup, sq_lst, at_tup, al_nil, al_cons, nm_set, isi_tup_t, nh_int, nh_tup, nh_lst, nh_bl, nh_all_nil, nh_all_cons, ln_nil, ln_cons, lc_nil, lc_cons, lk_nil, lk_cons, fo_nil, fo_cons, all_l, any_l, allB_nil, anyB_nil, allB_cons, anyB_cons, ix_t0, ix_l0, ix_l1, ix_t1, ix_t2, ix_t3, pSl, pNo, pPart, pEnum, skip_nx, seq_k, fclk_eq, fck_eq, len_t, len_l, eq_i, ge_i, le_i, lt_i, gt_i, add_i, sub_i, int_i, chl, chle, id_eq, ble_ok, Nat.reduceAdd, List.length_cons, List.length_nil, decide_true, decide_false, Bool.not_true, Bool.not_false, Nat.zero_add, Nat.reduceLeDiff, Int.cast_ofNat_Int, g0, s0, g1, s1, g2, s2, g3, s3, g4, s4, g5, s5, g6, s6, g7, s7, g8, s8, g9, s9, g10, s10, g11, s11, g12, s12, g13, s13, g14, s14, g15, s15, g16, s16, g17, s17, g18, s18, g19, s19, g20, s20, g21, s21, g22, s22, g23, s23, g24, s24, g25, s25, g26, s26, g27, s27, g28, s28, g29, s29, g30, s30, g31, s31, g32, s32, g33, s33, g34, s34, g35, s35, g36, s36, g37, s37, g38, s38, g39, s39] at e1
  simp only [F16, nn16, runK, sSqK, sIfK, sIfP, tOrK, tAndK, tNotK, tValK, liE, liT, liL, liI, liO, pNotT, pT, p1, p2, pK, pCons, pNil, pYes, pSeq, pAndE, pOrE, pNotE, pAndT, pOrT, pChain, pIf, pTup, pLst, pLc, pDic, pR1, pR2, sRetP, sRetK, sAsP, sAsK, sAoP, sAoK, sDrpK, sPar2K, sPar3K, sForP, sForK, sAppC, mAndK, mOrK, mNotK, mIfK, lConsK, mTupK, mLstK, mMK, m1K, m2K, mLcK, mCallP, mCallK, in_nil, in_cons, re_zero, re_succ, bk_ok, bk_dr, opK_some, opK_none, ooK_some, ooK_none, bK_t, bK_f, hd_cons, tl_cons, s0_cons, st_cons, fl_nx, fl_rt, fl_bk, fl_ct, rt_rt, rt_nx, dB_bl, dI_int, sq_tup, sq_lst, at_tup, al_nil, al_cons, nm_set, isi_tup_t, nh_int, nh_tup, nh_lst, nh_bl, nh_all_nil, nh_all_cons, ln_nil, ln_cons, lc_nil, lc_cons, lk_nil, lk_cons, fo_nil, fo_cons, all_l, any_l, allB_nil, anyB_nil, allB_cons, anyB_cons, ix_t0, ix_l0, ix_l1, ix_t1, ix_t2, ix_t3, pSl, pNo, pPart, pEnum, skip_nx, seq_k, fclk_eq, fck_eq, len_t, len_l, eq_i, ge_i, le_i, lt_i, gt_i, add_i, sub_i, int_i, chl, chle, id_eq, ble_ok, Nat.reduceAdd, List.length_cons, List.length_nil, decide_true, decide_false, Bool.not_true, Bool.not_false, Nat.zero_add, Nat.reduceLeDiff, Int.cast_ofNat_Int, g0, s0, g1, s1, g2, s2, g3, s3, g4, s4, g5, s5, g6, s6, g7, s7, g8, s8, g9, s9, g10, s10, g11, s11, g12, s12, g13, s13, g14, s14, g15, s15, g16, s16, g17, s17, g18, s18, g19, s19, g20, s20, g21, s21, g22, s22, g23, s23, g24, s24, g25, s25, g26, s26, g27, s27, g28, s28, g29, s29, g30, s30, g31, s31, g32, s32, g33, s33, g34, s34, g35, s35, g36, s36, g37, s37, g38, s38, g39, s39, t11 C, e1, oTuple]
  rw [show cD (c.map _) = D.tup ((c.map _).map R4.d) from rfl, map_map2]
theorem t15 : F15 [cD c] = .ok (cD (c.map (mi W))) := by
  have e1 := lcP_mapg (A := aNm s2) (st := [some (cD c), some (.int W), none]) (c := pYes) (e := (pTup (pCons (p2 oSubK (p2 oSubK g1 (p2 oIxK g2 (pK (.int 0)))) (p2 oIxK g2 (pK (.int 2)))) (pCons (p2 oIxK g2 (pK (.int 1))) (pCons (p2 oIxK g2 (pK (.int 2))) (pCons (p2 oIxK g2 (pK (.int 3))) pNil)))))) (g := R4.d) (h := fun r => (mi W r).d) c 0 (fun r hr => ⟨[some (cD c), some (.int W), some r.d], rfl, rfl, by simp only [R4.d, mi, runK, sSqK, sIfK, sIfP, tOrK, tAndK, tNotK, tValK, liE, liT, liL, liI, liO, pNotT, pT, p1, p2, pK, pCons, pNil, pYes, pSeq, pAndE, pOrE, pNotE, pAndT, pOrT, pChain, pIf, pTup, pLst, pLc, pDic, pR1, pR2, sRetP, sRetK, sAsP, sAsK, sAoP, sAoK, sDrpK, sPar2K, sPar3K, sForP, sForK, sAppC, mAndK, mOrK, mNotK, mIfK, lConsK, mTupK, mLstK, mMK, m1K, m2K, mLcK, mCallP, mCallK, in_nil, in_cons, re_zero, re_succ, bk_ok, bk_dr, opK_some, opK_none, ooK_some, ooK_none, bK_t, bK_f, hd_cons, tl_cons, s0_cons, st_cons, fl_nx, fl_rt, fl_bk, fl_ct, rt_rt, rt_nx, dB_bl, dI_int, sq_tup, sq_lst, at_tup, al_nil, al_cons, nm_set, isi_tup_t, nh_int, nh_tup, nh_lst, nh_bl, nh_all_nil, nh_all_cons, ln_nil, ln_cons, lc_nil, lc_cons, lk_nil, lk_cons, fo_nil, fo_cons, all_l, any_l, allB_nil, anyB_nil, allB_cons, anyB_cons, ix_t0, ix_l0, ix_l1, ix_t1, ix_t2, ix_t3, pSl, pNo, pPart, pEnum, skip_nx, seq_k, fclk_eq, fck_eq, len_t, len_l, eq_i, ge_i, le_i, lt_i, gt_i, add_i, sub_i, int_i, chl, chle, id_eq, ble_ok, Nat.reduceAdd, List.length_cons, List.length_nil, decide_true, decide_false, Bool.not_true, Bool.not_false, Nat.zero_add, Nat.reduceLeDiff, Int.cast_ofNat_Int, g0, s0, g1, s1, g2, s2, g3, s3, g4, s4, g5, s5, g6, s6, g7, s7, g8, s8, g9, s9, g10, s10, g11, s11, g12, s12, g13, s13, g14, s14, g15, s15, g16, s16, g17, s17, g18, s18, g19, s19, g20, s20, g21, s21, g22, s22, g23, s23, g24, s24, g25, s25, g26, s26, g27, s27, g28, s28, g29, s29, g30, s30, g31, s31, g32, s32, g33, s33, g34, s34, g35, s35, g36, s36, g37, s37, g38, s38, g39, s39], rfl⟩) (lenb C)
  simp only [runK, sSqK, sIfK, sIfP, tOrK, tAndK, tNotK, tValK, liE, liT, liL, liI, liO, pNotT, pT, p1, p2, pK, pCons, pNil, pYes, pSeq, pAndE, pOrE, pNotE, pAndT, pOrT, pChain, pIf, pTup, pLst, pLc, pDic, pR1, pR2, sRetP, sRetK, sAsP, sAsK, sAoP, sAoK, sDrpK, sPar2K, sPar3K, sForP, sForK, sAppC, mAndK, mOrK, mNotK, mIfK, lConsK, mTupK, mLstK, mMK, m1K, m2K, mLcK, mCallP, mCallK, in_nil, in_cons, re_zero, re_succ, bk_ok, bk_dr, opK_some, opK_none, ooK_some, ooK_none, bK_t, bK_f, hd_cons, tl_cons, s0_cons, st_cons, fl_nx, fl_rt, fl_bk, fl_ct, rt_rt, rt_nx, dB_bl, dI_int, sq_tup, sq_lst, at_tup, al_nil, al_cons, nm_set, isi_tup_t, nh_int, nh_tup, nh_lst, nh_bl, nh_all_nil, nh_all_cons, ln_nil, ln_cons, lc_nil, lc_cons, lk_nil, lk_cons, fo_nil, fo_cons, all_l, any_l, allB_nil, anyB_nil, allB_cons, anyB_cons, ix_t0, ix_l0, ix_l1, ix_t1, ix_t2, ix_t3, pSl, pNo, pPart, pEnum, skip_nx, seq_k, fclk_eq, fck_eq, len_t, len_l, eq_i, ge_i, le_i, lt_i, gt_i, add_i, sub_i, int_i, chl, chle, id_eq, ble_ok, Nat.reduceAdd, List.length_cons, List.length_nil, decide_true, decide_false, Bool.not_true, Bool.not_false, Nat.zero_add, Nat.reduceLeDiff, Int.cast_ofNat_Int, g0, s0, g1, s1, g2, s2, g3, s3, g4, s4, g5, s5, g6, s6, g7, s7, g8, s8, g9, s9, g10, s10, g11, s11, g12, s12, g13, s13, g14, s14, g15, s15, g16, s16, g17, s17, g18, s18, g19, s19, g20, s20, g21, s21, g22, s22, g23, s23, g24, s24, g25, s25, g26, s26, g27, s27, g28, s28, g29, s29, g30, s30, g31, s31, g32, s32, g33, s33, g34, s34, g35, s35, g36, s36, g37, s37, g38, s38, g39, s39] at e1
  simp only [F15, nn15, runK, sSqK, sIfK, sIfP, tOrK, tAndK, tNotK, tValK, liE, liT, liL, liI, liO, pNotT, pT, p1, p2, pK, pCons, pNil, pYes, pSeq, pAndE, pOrE, pNotE, pAndT, pOrT, pChain, pIf, pTup, pLst, pLc, pDic, pR1, pR2, sRetP, sRetK, sAsP, sAsK, sAoP, sAoK, sDrpK, sPar2K, sPar3K, sForP, sForK, sAppC, mAndK, mOrK, mNotK, mIfK, lConsK, mTupK, mLstK, mMK, m1K, m2K, mLcK, mCallP, mCallK, in_nil, in_cons, re_zero, re_succ, bk_ok, bk_dr, opK_some, opK_none, ooK_some, ooK_none, bK_t, bK_f, hd_cons, tl_cons, s0_cons, st_cons, fl_nx, fl_rt, fl_bk, fl_ct, rt_rt, rt_nx, dB_bl, dI_int, sq_tup, sq_lst, at_tup, al_nil, al_cons, nm_set, isi_tup_t, nh_int, nh_tup, nh_lst, nh_bl, nh_all_nil, nh_all_cons, ln_nil, ln_cons, lc_nil, lc_cons, lk_nil, lk_cons, fo_nil, fo_cons, all_l, any_l, allB_nil, anyB_nil, allB_cons, anyB_cons, ix_t0, ix_l0, ix_l1, ix_t1, ix_t2, ix_t3, pSl, pNo, pPart, pEnum, skip_nx, seq_k, fclk_eq, fck_eq, len_t, len_l, eq_i, ge_i, le_i, lt_i, gt_i, add_i, sub_i, int_i, chl, chle, id_eq, ble_ok, Nat.reduceAdd, List.length_cons, List.length_nil, decide_true, decide_false, Bool.not_true, Bool.not_false, Nat.zero_add, Nat.reduceLeDiff, Int.cast_ofNat_Int, g0, s0, g1, s1, g2, s2, g3, s3, g4, s4, g5, s5, g6, s6, g7, s7, g8, s8, g9, s9, g10, s10, g11, s11, g12, s12, g13, s13, g14, s14, g15, s15, g16, s16, g17, s17, g18, s18, g19, s19, g20, s20, g21, s21, g22, s22, g23, s23, g24, s24, g25, s25, g26, s26, g27, s27, g28, s28, g29, s29, g30, s30, g31, s31, g32, s32, g33, s33, g34, s34, g35, s35, g36, s36, g37, s37, g38, s38, g39, s39, t11 C, t8 C, e1, oTuple]
  rw [show cD (c.map _) = D.tup ((c.map _).map R4.d) from rfl, map_map2]
theorem t17 {k : Int} (h1 : 1 ≤ k) (h2 : k ≤ 200) : F17 [cD c, .int k] = .ok (cD (c.map (gr k))) := by
  have e1 := lcP_mapg (A := aNm s2) (st := [some (cD c), some (.int k), none, none]) (c := pYes) (e := (p1 oTuple (pLc (pSeq g2) (aNm s3) (fun st => s3 none (id st)) pYes (p2 oMulK g3 g1)))) (g := R4.d) (h := fun r => (gr k r).d) c 0 (fun r hr => ⟨[some (cD c), some (.int k), some r.d, none], rfl, rfl, by
    have b := C.pt r hr
    have m1 := mul_i (i := r.x) (j := k) (by have := b.x0; omega) (by have := b.x2; omega)
    have m2 := mul_i (i := r.y) (j := k) (by have := b.y0; omega) (by have := b.y2; omega)
    have m3 := mul_i (i := r.w) (j := k) (by have := b.w1; omega) (by have := b.w2; omega)
    have m4 := mul_i (i := r.h) (j := k) (by have := b.h1; omega) (by have := b.h2; omega)
    simp only [R4.d, gr, runK, sSqK, sIfK, sIfP, tOrK, tAndK, tNotK, tValK, liE, liT, liL, liI, liO, pNotT, pT, p1, p2, pK, pCons, pNil, pYes, pSeq, pAndE, pOrE, pNotE, pAndT, pOrT, pChain, pIf, pTup, pLst, pLc, pDic, pR1, pR2, sRetP, sRetK, sAsP, sAsK, sAoP, sAoK, sDrpK, sPar2K, sPar3K, sForP, sForK, sAppC, mAndK, mOrK, mNotK, mIfK, lConsK, mTupK, mLstK, mMK, m1K, m2K, mLcK, mCallP, mCallK, in_nil, in_cons, re_zero, re_succ, bk_ok, bk_dr, opK_some, opK_none, ooK_some, ooK_none, bK_t, bK_f, hd_cons, tl_cons, s0_cons, st_cons, fl_nx, fl_rt, fl_bk, fl_ct, rt_rt, rt_nx, dB_bl, dI_int, sq_tup, sq_lst, at_tup, al_nil, al_cons, nm_set, isi_tup_t, nh_int, nh_tup, nh_lst, nh_bl, nh_all_nil, nh_all_cons, ln_nil, ln_cons, lc_nil, lc_cons, lk_nil, lk_cons, fo_nil, fo_cons, all_l, any_l, allB_nil, anyB_nil, allB_cons, anyB_cons, ix_t0, ix_l0, ix_l1, ix_t1, ix_t2, ix_t3, pSl, pNo, pPart, pEnum, skip_nx, seq_k, fclk_eq, fck_eq, len_t, len_l, eq_i, ge_i, le_i, lt_i, gt_i, add_i, sub_i, int_i, chl, chle, id_eq, ble_ok, Nat.reduceAdd, List.length_cons, List.length_nil, decide_true, decide_false, Bool.not_true, Bool.not_false, Nat.zero_add, Nat.reduceLeDiff, Int.cast_ofNat_Int, g0, s0, g1, s1, g2, s2, g3, s3, g4, s4, g5, s5, g6, s6, g7, s7, g8, s8, g9, s9, g10, s10, g11, s11, g12, s12, g13, s13, g14, s14, g15, s15, g16, s16, g17, s17, g18, s18, g19, s19, g20, s20, g21, s21, g22, s22, g23, s23, g24, s24, g25, s25, g26, s26, g27, s27, g28, s28, g29, s29, g30, s30, g31, s31, g32, s32, g33, s33, g34, s34, g35, s35, g36, s36, g37, s37, g38, s38, g39, s39, m1, m2, m3, m4, oTuple], rfl⟩) (lenb C)
  simp only [runK, sSqK, sIfK, sIfP, tOrK, tAndK, tNotK, tValK, liE, liT, liL, liI, liO, pNotT, pT, p1, p2, pK, pCons, pNil, pYes, pSeq, pAndE, pOrE, pNotE, pAndT, pOrT, pChain, pIf, pTup, pLst, pLc, pDic, pR1, pR2, sRetP, sRetK, sAsP, sAsK, sAoP, sAoK, sDrpK, sPar2K, sPar3K, sForP, sForK, sAppC, mAndK, mOrK, mNotK, mIfK, lConsK, mTupK, mLstK, mMK, m1K, m2K, mLcK, mCallP, mCallK, in_nil, in_cons, re_zero, re_succ, bk_ok, bk_dr, opK_some, opK_none, ooK_some, ooK_none, bK_t, bK_f, hd_cons, tl_cons, s0_cons, st_cons, fl_nx, fl_rt, fl_bk, fl_ct, rt_rt, rt_nx, dB_bl, dI_int, sq_tup, sq_lst, at_tup, al_nil, al_cons, nm_set, isi_tup_t, nh_int, nh_tup, nh_lst, nh_bl, nh_all_nil, nh_all_cons, ln_nil, ln_cons, lc_nil, lc_cons, lk_nil, lk_cons, fo_nil, fo_cons, all_l, any_l, allB_nil, anyB_nil, allB_cons, anyB_cons, ix_t0, ix_l0, ix_l1, ix_t1, ix_t2, ix_t3, pSl, pNo, pPart, pEnum, skip_nx, seq_k, fclk_eq, fck_eq, len_t, len_l, eq_i, ge_i, le_i, lt_i, gt_i, add_i, sub_i, int_i, chl, chle, id_eq, ble_ok, Nat.reduceAdd, List.length_cons, List.length_nil, decide_true, decide_false, Bool.not_true, Bool.not_false, Nat.zero_add, Nat.reduceLeDiff, Int.cast_ofNat_Int, g0, s0, g1, s1, g2, s2, g3, s3, g4, s4, g5, s5, g6, s6, g7, s7, g8, s8, g9, s9, g10, s10, g11, s11, g12, s12, g13, s13, g14, s14, g15, s15, g16, s16, g17, s17, g18, s18, g19, s19, g20, s20, g21, s21, g22, s22, g23, s23, g24, s24, g25, s25, g26, s26, g27, s27, g28, s28, g29, s29, g30, s30, g31, s31, g32, s32, g33, s33, g34, s34, g35, s35, g36, s36, g37, s37, g38, s38, g39, s39] at e1
  simp only [F17, nn17, runK, sSqK, sIfK, sIfP, tOrK, tAndK, tNotK, tValK, liE, liT, liL, liI, liO, pNotT, pT, p1, p2, pK, pCons, pNil, pYes, pSeq, pAndE, pOrE, pNotE, pAndT, pOrT, pChain, pIf, pTup, pLst, pLc, pDic, pR1, pR2, sRetP, sRetK, sAsP, sAsK, sAoP, sAoK, sDrpK, sPar2K, sPar3K, sForP, sForK, sAppC, mAndK, mOrK, mNotK, mIfK, lConsK, mTupK, mLstK, mMK, m1K, m2K, mLcK, mCallP, mCallK, in_nil, in_cons, re_zero, re_succ, bk_ok, bk_dr, opK_some, opK_none, ooK_some, ooK_none, bK_t, bK_f, hd_cons, tl_cons, s0_cons, st_cons, fl_nx, fl_rt, fl_bk, fl_ct, rt_rt, rt_nx, dB_bl, dI_int, sq_tup, sq_lst, at_tup, al_nil, al_cons, nm_set, isi_tup_t, nh_int, nh_tup, nh_lst, nh_bl, nh_all_nil, nh_all_cons, ln_nil, ln_cons, lc_nil, lc_cons, lk_nil, lk_cons, fo_nil, fo_cons, all_l, any_l, allB_nil, anyB_nil, allB_cons, anyB_cons, ix_t0, ix_l0, ix_l1, ix_t1, ix_t2, ix_t3, pSl, pNo, pPart, pEnum, skip_nx, seq_k, fclk_eq, fck_eq, len_t, len_l, eq_i, ge_i, le_i, lt_i, gt_i, add_i, sub_i, int_i, chl, chle, id_eq, ble_ok, Nat.reduceAdd, List.length_cons, List.length_nil, decide_true, decide_false, Bool.not_true, Bool.not_false, Nat.zero_add, Nat.reduceLeDiff, Int.cast_ofNat_Int, g0, s0, g1, s1, g2, s2, g3, s3, g4, s4, g5, s5, g6, s6, g7, s7, g8, s8, g9, s9, g10, s10, g11, s11, g12, s12, g13, s13, g14, s14, g15, s15, g16, s16, g17, s17, g18, s18, g19, s19, g20, s20, g21, s21, g22, s22, g23, s23, g24, s24, g25, s25, g26, s26, g27, s27, g28, s28, g29, s29, g30, s30, g31, s31, g32, s32, g33, s33, g34, s34, g35, s35, g36, s36, g37, s37, g38, s38, g39, s39, t11 C, t5t h1 h2, e1, oTuple]
  rw [show cD (c.map _) = D.tup ((c.map _).map R4.d) from rfl, map_map2]
theorem t18t : F18 [cD c, .bl true] = .ok (cD (c ++ [sq W H true])) := by
  have l : lenOk (c.length + 1) = true := by
    have := C.len1
    exact Nat.ble_eq_true_of_le (by omega)
  simp only [F18, nn18, runK, sSqK, sIfK, sIfP, tOrK, tAndK, tNotK, tValK, liE, liT, liL, liI, liO, pNotT, pT, p1, p2, pK, pCons, pNil, pYes, pSeq, pAndE, pOrE, pNotE, pAndT, pOrT, pChain, pIf, pTup, pLst, pLc, pDic, pR1, pR2, sRetP, sRetK, sAsP, sAsK, sAoP, sAoK, sDrpK, sPar2K, sPar3K, sForP, sForK, sAppC, mAndK, mOrK, mNotK, mIfK, lConsK, mTupK, mLstK, mMK, m1K, m2K, mLcK, mCallP, mCallK, in_nil, in_cons, re_zero, re_succ, bk_ok, bk_dr, opK_some, opK_none, ooK_some, ooK_none, bK_t, bK_f, hd_cons, tl_cons, s0_cons, st_cons, fl_nx, fl_rt, fl_bk, fl_ct, rt_rt, rt_nx, dB_bl, dI_int, sq_tup, sq_lst, at_tup, al_nil, al_cons, nm_set, isi_tup_t, nh_int, nh_tup, nh_lst, nh_bl, nh_all_nil, nh_all_cons, ln_nil, ln_cons, lc_nil, lc_cons, lk_nil, lk_cons, fo_nil, fo_cons, all_l, any_l, allB_nil, anyB_nil, allB_cons, anyB_cons, ix_t0, ix_l0, ix_l1, ix_t1, ix_t2, ix_t3, pSl, pNo, pPart, pEnum, skip_nx, seq_k, fclk_eq, fck_eq, len_t, len_l, eq_i, ge_i, le_i, lt_i, gt_i, add_i, sub_i, int_i, chl, chle, id_eq, ble_ok, Nat.reduceAdd, List.length_cons, List.length_nil, decide_true, decide_false, Bool.not_true, Bool.not_false, Nat.zero_add, Nat.reduceLeDiff, Int.cast_ofNat_Int, g0, s0, g1, s1, g2, s2, g3, s3, g4, s4, g5, s5, g6, s6, g7, s7, g8, s8, g9, s9, g10, s10, g11, s11, g12, s12, g13, s13, g14, s14, g15, s15, g16, s16, g17, s17, g18, s18, g19, s19, g20, s20, g21, s21, g22, s22, g23, s23, g24, s24, g25, s25, g26, s26, g27, s27, g28, s28, g29, s29, g30, s30, g31, s31, g32, s32, g33, s33, g34, s34, g35, s35, g36, s36, g37, s37, g38, s38, g39, s39, t11 C, t8 C, oTuple, oList, oCatL, List.length_map, l]
  rw [show ∀ q, cD (c ++ [q]) = D.tup ((c ++ [q]).map R4.d) from fun _ => rfl, List.map_append]
  rfl
theorem t18f : F18 [cD c, .bl false] = .ok (cD (c ++ [sq W H false])) := by
  have l : lenOk (c.length + 1) = true := by
    have := C.len1
    exact Nat.ble_eq_true_of_le (by omega)
  simp only [F18, nn18, runK, sSqK, sIfK, sIfP, tOrK, tAndK, tNotK, tValK, liE, liT, liL, liI, liO, pNotT, pT, p1, p2, pK, pCons, pNil, pYes, pSeq, pAndE, pOrE, pNotE, pAndT, pOrT, pChain, pIf, pTup, pLst, pLc, pDic, pR1, pR2, sRetP, sRetK, sAsP, sAsK, sAoP, sAoK, sDrpK, sPar2K, sPar3K, sForP, sForK, sAppC, mAndK, mOrK, mNotK, mIfK, lConsK, mTupK, mLstK, mMK, m1K, m2K, mLcK, mCallP, mCallK, in_nil, in_cons, re_zero, re_succ, bk_ok, bk_dr, opK_some, opK_none, ooK_some, ooK_none, bK_t, bK_f, hd_cons, tl_cons, s0_cons, st_cons, fl_nx, fl_rt, fl_bk, fl_ct, rt_rt, rt_nx, dB_bl, dI_int, sq_tup, sq_lst, at_tup, al_nil, al_cons, nm_set, isi_tup_t, nh_int, nh_tup, nh_lst, nh_bl, nh_all_nil, nh_all_cons, ln_nil, ln_cons, lc_nil, lc_cons, lk_nil, lk_cons, fo_nil, fo_cons, all_l, any_l, allB_nil, anyB_nil, allB_cons, anyB_cons, ix_t0, ix_l0, ix_l1, ix_t1, ix_t2, ix_t3, pSl, pNo, pPart, pEnum, skip_nx, seq_k, fclk_eq, fck_eq, len_t, len_l, eq_i, ge_i, le_i, lt_i, gt_i, add_i, sub_i, int_i, chl, chle, id_eq, ble_ok, Nat.reduceAdd, List.length_cons, List.length_nil, decide_true, decide_false, Bool.not_true, Bool.not_false, Nat.zero_add, Nat.reduceLeDiff, Int.cast_ofNat_Int, g0, s0, g1, s1, g2, s2, g3, s3, g4, s4, g5, s5, g6, s6, g7, s7, g8, s8, g9, s9, g10, s10, g11, s11, g12, s12, g13, s13, g14, s14, g15, s15, g16, s16, g17, s17, g18, s18, g19, s19, g20, s20, g21, s21, g22, s22, g23, s23, g24, s24, g25, s25, g26, s26, g27, s27, g28, s28, g29, s29, g30, s30, g31, s31, g32, s32, g33, s33, g34, s34, g35, s35, g36, s36, g37, s37, g38, s38, g39, s39, t11 C, t8 C, oTuple, oList, oCatL, List.length_map, l]
  rw [show ∀ q, cD (c ++ [q]) = D.tup ((c ++ [q]).map R4.d) from fun _ => rfl, List.map_append]
  rfl
end
end EV
set_option maxHeartbeats 0
namespace EV
open PySem PySem.Spec PyProof.Rows L2 RZ
/-! sizes -/
def szs (r : R4) : List Int := if r.h < r.w then [r.h, r.w] else [r.w, r.h]
theorem sort_wh (r : R4) : oSortK (.tup [.int r.w, .int r.h]) = some (.lst ((szs r).map D.int)) := by
  rw [sort_t, show [D.int r.w, D.int r.h] = [r.w, r.h].map D.int from rfl, sort_of (homI 59 (fun i => i) [r.w, r.h]) (ne_map _ fun a h => by cases h)]
  show some (D.lst (match decide (r.h < r.w) with | true => [D.int r.h, D.int r.w] | false => [D.int r.w, D.int r.h])) = _
  unfold szs
  by_cases h : r.h < r.w
  · rw [decide_eq_true h, if_pos h]; rfl
  · rw [decide_eq_false h, if_neg h]; rfl
theorem oLSet_dd {ks : List (List Int)} (h0 : ks ≠ []) (h1 : ks.length < 64) : oLSet (.lst (ks.map tupZ)) = some (.int (dd ks).length) := by
  have e : ints? (ks.map tupZ) = none := by
    cases ks with
    | nil => exact absurd rfl h0
    | cons k r => rfl
  unfold oLSet
  simp only [e, tupi_map]
  have : Nat.blt ks.length 64 = true := Nat.ble_eq_true_of_le h1
  rw [this]
theorem dd_map {α β : Type} [DecidableEq α] [DecidableEq β] {f : α → β} (h : ∀ x y, f x = f y → x = y) : ∀ l : List α, dd (l.map f) = (dd l).map f
  | [] => rfl
  | x :: r => by
    have : f x ∈ r.map f ↔ x ∈ r := ⟨fun q => by
      obtain ⟨y, hy, e⟩ := List.mem_map.mp q
      rw [← h _ _ e]; exact hy, fun q => List.mem_map_of_mem q⟩
    rw [List.map_cons]
    unfold dd
    by_cases e : x ∈ r
    · rw [if_pos e, if_pos (this.mpr e), dd_map h r]
    · rw [if_neg e, if_neg (fun q => e (this.mp q)), dd_map h r]
      rfl
def unl (c : List R4) : Bool := decide (((dd (c.map szs)).length : Int) = (c.length : Nat))
theorem szs_gr {k : Int} (hk : 1 ≤ k) (r : R4) : szs (gr k r) = (szs r).map (· * k) := by
  unfold szs
  show (if r.h * k < r.w * k then [r.h * k, r.w * k] else [r.w * k, r.h * k]) = _
  have := Int.mul_lt_mul_right (a := k) (b := r.h) (c := r.w) (by omega)
  by_cases h : r.h < r.w
  · rw [if_pos h, if_pos (this.mpr h)]; rfl
  · rw [if_neg h, if_neg (fun q => h (this.mp q))]; rfl
theorem unl_gr {k : Int} (hk : 1 ≤ k) (c : List R4) : unl (c.map (gr k)) = unl c := by
  unfold unl
  have e : (c.map (gr k)).map szs = (c.map szs).map fun l => l.map (· * k) := by
    rw [map_map2, map_map2]
    congr 1
    funext r
    exact szs_gr hk r
  rw [e, dd_map (fun x y h => (List.map_inj_right (fun a b h => Int.eq_of_mul_eq_mul_right (by omega) h)).mp h), List.length_map, List.length_map]
theorem sq_gr {k : Int} (hk : 1 ≤ k) (c : List R4) : ((c.map (gr k)).all fun r => decide (r.w = r.h)) = c.all fun r => decide (r.w = r.h) := by
  rw [List.all_map]
  congr 1
  funext r
  show decide (r.w * k = r.h * k) = decide (r.w = r.h)
  exact decide_eq_decide.mpr ⟨fun h => Int.eq_of_mul_eq_mul_right (by omega) h, fun h => by rw [h]⟩
/-! lines -/
def ivl (lo : Int) : Nat → List Int
  | 0 => []
  | n + 1 => lo :: ivl (lo + 1) n
theorem rngK_ivl : ∀ (n : Nat) (lo : Int), rngK n lo = (ivl lo n).map D.int
  | 0, _ => rfl
  | n + 1, lo => by
    show fcI lo (fun lo => D.int lo :: rngK n (lo + 1)) = _
    rw [fcI_eq, rngK_ivl n]
    rfl
theorem ivl_len : ∀ (n : Nat) (lo : Int), (ivl lo n).length = n
  | 0, _ => rfl
  | n + 1, lo => congrArg (· + 1) (ivl_len n (lo + 1))
theorem ivl_mem : ∀ {n : Nat} {lo x : Int}, lo ≤ x → x < lo + n → x ∈ ivl lo n
  | 0, lo, x, h1, h2 => by omega
  | n + 1, lo, x, h1, h2 => by
    by_cases e : x = lo
    · rw [e]; exact List.mem_cons_self
    · exact List.mem_cons_of_mem _ (ivl_mem (n := n) (by omega) (by omega))
theorem fits_ok {i : Int} (h : -1000 ≤ i) (h2 : i ≤ 1000) : fits62 i = true := by
  unfold fits62
  rw [Bool.and_eq_true, decide_eq_true_eq, decide_eq_true_eq]
  omega
noncomputable def inY (y : Int) (r : R4) : Bool := bK (decide (r.y < y)) (decide (y < r.y + r.h)) false
noncomputable def inX (x : Int) (r : R4) : Bool := bK (decide (r.x < x)) (decide (x < r.x + r.w)) false
noncomputable def lev (c : List R4) (H : Int) : List Int := (ivl 1 (H - 1).toNat).filter fun y => !(c.any (inY y))
noncomputable def upr (c : List R4) (W : Int) : List Int := (ivl 1 (W - 1).toNat).filter fun x => !(c.any (inX x))
section
variable {W H : Int} {c : List R4} (C : Cut W H c)
include C
theorem t13 : F13 [cD c] = .ok (.bl (unl c)) := by
  have e1 := lcP_mapg (A := aNm s2) (st := [some (cD c), none, none]) (c := pYes) (e := (p1 oTuple (p1 oSortK (pTup (pCons (p2 oIxK g2 (pK (.int 2))) (pCons (p2 oIxK g2 (pK (.int 3))) pNil)))))) (g := R4.d) (h := fun r => tupZ (szs r)) c 0 (fun r hr => ⟨[some (cD c), none, some r.d], rfl, rfl, by simp only [R4.d, runK, sSqK, sIfK, sIfP, tOrK, tAndK, tNotK, tValK, liE, liT, liL, liI, liO, pNotT, pT, p1, p2, pK, pCons, pNil, pYes, pSeq, pAndE, pOrE, pNotE, pAndT, pOrT, pChain, pIf, pTup, pLst, pLc, pDic, pR1, pR2, sRetP, sRetK, sAsP, sAsK, sAoP, sAoK, sDrpK, sPar2K, sPar3K, sForP, sForK, sAppC, mAndK, mOrK, mNotK, mIfK, lConsK, mTupK, mLstK, mMK, m1K, m2K, mLcK, mCallP, mCallK, in_nil, in_cons, re_zero, re_succ, bk_ok, bk_dr, opK_some, opK_none, ooK_some, ooK_none, bK_t, bK_f, hd_cons, tl_cons, s0_cons, st_cons, fl_nx, fl_rt, fl_bk, fl_ct, rt_rt, rt_nx, dB_bl, dI_int, sq_tup, sq_lst, at_tup, al_nil, al_cons, nm_set, isi_tup_t, nh_int, nh_tup, nh_lst, nh_bl, nh_all_nil, nh_all_cons, ln_nil, ln_cons, lc_nil, lc_cons, lk_nil, lk_cons, fo_nil, fo_cons, all_l, any_l, allB_nil, anyB_nil, allB_cons, anyB_cons, ix_t0, ix_l0, ix_l1, ix_t1, ix_t2, ix_t3, pSl, pNo, pPart, pEnum, skip_nx, seq_k, fclk_eq, fck_eq, len_t, len_l, eq_i, ge_i, le_i, lt_i, gt_i, add_i, sub_i, int_i, chl, chle, id_eq, ble_ok, Nat.reduceAdd, List.length_cons, List.length_nil, decide_true, decide_false, Bool.not_true, Bool.not_false, Nat.zero_add, Nat.reduceLeDiff, Int.cast_ofNat_Int, g0, s0, g1, s1, g2, s2, g3, s3, g4, s4, g5, s5, g6, s6, g7, s7, g8, s8, g9, s9, g10, s10, g11, s11, g12, s12, g13, s13, g14, s14, g15, s15, g16, s16, g17, s17, g18, s18, g19, s19, g20, s20, g21, s21, g22, s22, g23, s23, g24, s24, g25, s25, g26, s26, g27, s27, g28, s28, g29, s29, g30, s30, g31, s31, g32, s32, g33, s33, g34, s34, g35, s35, g36, s36, g37, s37, g38, s38, g39, s39, sort_wh, oTuple], rfl⟩) (lenb C)
  have e2 : oLSet (.lst (c.map fun r => tupZ (szs r))) = some (.int (dd (c.map szs)).length) := by
    rw [← map_map2]
    refine oLSet_dd (fun e => ?_) (by rw [List.length_map]; have := C.len1; omega)
    have := C.len0
    rw [List.map_eq_nil_iff.mp e] at this
    exact absurd this (by decide)
  simp only [runK, sSqK, sIfK, sIfP, tOrK, tAndK, tNotK, tValK, liE, liT, liL, liI, liO, pNotT, pT, p1, p2, pK, pCons, pNil, pYes, pSeq, pAndE, pOrE, pNotE, pAndT, pOrT, pChain, pIf, pTup, pLst, pLc, pDic, pR1, pR2, sRetP, sRetK, sAsP, sAsK, sAoP, sAoK, sDrpK, sPar2K, sPar3K, sForP, sForK, sAppC, mAndK, mOrK, mNotK, mIfK, lConsK, mTupK, mLstK, mMK, m1K, m2K, mLcK, mCallP, mCallK, in_nil, in_cons, re_zero, re_succ, bk_ok, bk_dr, opK_some, opK_none, ooK_some, ooK_none, bK_t, bK_f, hd_cons, tl_cons, s0_cons, st_cons, fl_nx, fl_rt, fl_bk, fl_ct, rt_rt, rt_nx, dB_bl, dI_int, sq_tup, sq_lst, at_tup, al_nil, al_cons, nm_set, isi_tup_t, nh_int, nh_tup, nh_lst, nh_bl, nh_all_nil, nh_all_cons, ln_nil, ln_cons, lc_nil, lc_cons, lk_nil, lk_cons, fo_nil, fo_cons, all_l, any_l, allB_nil, anyB_nil, allB_cons, anyB_cons, ix_t0, ix_l0, ix_l1, ix_t1, ix_t2, ix_t3, pSl, pNo, pPart, pEnum, skip_nx, seq_k, fclk_eq, fck_eq, len_t, len_l, eq_i, ge_i, le_i, lt_i, gt_i, add_i, sub_i, int_i, chl, chle, id_eq, ble_ok, Nat.reduceAdd, List.length_cons, List.length_nil, decide_true, decide_false, Bool.not_true, Bool.not_false, Nat.zero_add, Nat.reduceLeDiff, Int.cast_ofNat_Int, g0, s0, g1, s1, g2, s2, g3, s3, g4, s4, g5, s5, g6, s6, g7, s7, g8, s8, g9, s9, g10, s10, g11, s11, g12, s12, g13, s13, g14, s14, g15, s15, g16, s16, g17, s17, g18, s18, g19, s19, g20, s20, g21, s21, g22, s22, g23, s23, g24, s24, g25, s25, g26, s26, g27, s27, g28, s28, g29, s29, g30, s30, g31, s31, g32, s32, g33, s33, g34, s34, g35, s35, g36, s36, g37, s37, g38, s38, g39, s39] at e1
  simp only [F13, nn13, runK, sSqK, sIfK, sIfP, tOrK, tAndK, tNotK, tValK, liE, liT, liL, liI, liO, pNotT, pT, p1, p2, pK, pCons, pNil, pYes, pSeq, pAndE, pOrE, pNotE, pAndT, pOrT, pChain, pIf, pTup, pLst, pLc, pDic, pR1, pR2, sRetP, sRetK, sAsP, sAsK, sAoP, sAoK, sDrpK, sPar2K, sPar3K, sForP, sForK, sAppC, mAndK, mOrK, mNotK, mIfK, lConsK, mTupK, mLstK, mMK, m1K, m2K, mLcK, mCallP, mCallK, in_nil, in_cons, re_zero, re_succ, bk_ok, bk_dr, opK_some, opK_none, ooK_some, ooK_none, bK_t, bK_f, hd_cons, tl_cons, s0_cons, st_cons, fl_nx, fl_rt, fl_bk, fl_ct, rt_rt, rt_nx, dB_bl, dI_int, sq_tup, sq_lst, at_tup, al_nil, al_cons, nm_set, isi_tup_t, nh_int, nh_tup, nh_lst, nh_bl, nh_all_nil, nh_all_cons, ln_nil, ln_cons, lc_nil, lc_cons, lk_nil, lk_cons, fo_nil, fo_cons, all_l, any_l, allB_nil, anyB_nil, allB_cons, anyB_cons, ix_t0, ix_l0, ix_l1, ix_t1, ix_t2, ix_t3, pSl, pNo, pPart, pEnum, skip_nx, seq_k, fclk_eq, fck_eq, len_t, len_l, eq_i, ge_i, le_i, lt_i, gt_i, add_i, sub_i, int_i, chl, chle, id_eq, ble_ok, Nat.reduceAdd, List.length_cons, List.length_nil, decide_true, decide_false, Bool.not_true, Bool.not_false, Nat.zero_add, Nat.reduceLeDiff, Int.cast_ofNat_Int, g0, s0, g1, s1, g2, s2, g3, s3, g4, s4, g5, s5, g6, s6, g7, s7, g8, s8, g9, s9, g10, s10, g11, s11, g12, s12, g13, s13, g14, s14, g15, s15, g16, s16, g17, s17, g18, s18, g19, s19, g20, s20, g21, s21, g22, s22, g23, s23, g24, s24, g25, s25, g26, s26, g27, s27, g28, s28, g29, s29, g30, s30, g31, s31, g32, s32, g33, s33, g34, s34, g35, s35, g36, s36, g37, s37, g38, s38, g39, s39, t11 C, e1, e2, List.length_map, unl]
theorem t14 : F14 [cD c] = .ok (.tup [.lst ((lev c H).map D.int), .lst ((upr c W).map D.int)]) := by
  have W1 := C.W1
  have H1 := C.H1
  have W2 := C.W2
  have H2 := C.H2
  have e1 := lcP_filterg (A := aNm s5) (st := [some (cD c), none, none, some (.int W), some (.int H), none, none, none]) (c := (pNotT (pT (p1 oAnyK (pLc (pSeq g0) (aNm s7) (fun st => s7 none (id st)) pYes (pChain (iop .lt) (iop .lt) (p2 oIxK g7 (pK (.int 1))) g5 (p2 oAddK (p2 oIxK g7 (pK (.int 1))) (p2 oIxK g7 (pK (.int 3)))))))))) (e := g5) (g := D.int) (h := D.int) (f := fun y => !(c.any (inY y))) (ivl 1 (H - 1).toNat) 0 (fun y hy => ⟨[some (cD c), none, none, some (.int W), some (.int H), some (.int y), none, none], rfl, by
    have e := lcP_mapg (A := aNm s7) (st := [some (cD c), none, none, some (.int W), some (.int H), some (.int y), none, none]) (c := pYes) (e := (pChain (iop .lt) (iop .lt) (p2 oIxK g7 (pK (.int 1))) g5 (p2 oAddK (p2 oIxK g7 (pK (.int 1))) (p2 oIxK g7 (pK (.int 3)))))) (g := R4.d) (h := fun r => .bl (inY y r)) c 0 (fun r hr => ⟨[some (cD c), none, none, some (.int W), some (.int H), some (.int y), none, some r.d], rfl, rfl, by
      unfold inY
      cases h1 : decide (r.y < y) <;> simp only [R4.d, runK, sSqK, sIfK, sIfP, tOrK, tAndK, tNotK, tValK, liE, liT, liL, liI, liO, pNotT, pT, p1, p2, pK, pCons, pNil, pYes, pSeq, pAndE, pOrE, pNotE, pAndT, pOrT, pChain, pIf, pTup, pLst, pLc, pDic, pR1, pR2, sRetP, sRetK, sAsP, sAsK, sAoP, sAoK, sDrpK, sPar2K, sPar3K, sForP, sForK, sAppC, mAndK, mOrK, mNotK, mIfK, lConsK, mTupK, mLstK, mMK, m1K, m2K, mLcK, mCallP, mCallK, in_nil, in_cons, re_zero, re_succ, bk_ok, bk_dr, opK_some, opK_none, ooK_some, ooK_none, bK_t, bK_f, hd_cons, tl_cons, s0_cons, st_cons, fl_nx, fl_rt, fl_bk, fl_ct, rt_rt, rt_nx, dB_bl, dI_int, sq_tup, sq_lst, at_tup, al_nil, al_cons, nm_set, isi_tup_t, nh_int, nh_tup, nh_lst, nh_bl, nh_all_nil, nh_all_cons, ln_nil, ln_cons, lc_nil, lc_cons, lk_nil, lk_cons, fo_nil, fo_cons, all_l, any_l, allB_nil, anyB_nil, allB_cons, anyB_cons, ix_t0, ix_l0, ix_l1, ix_t1, ix_t2, ix_t3, pSl, pNo, pPart, pEnum, skip_nx, seq_k, fclk_eq, fck_eq, len_t, len_l, eq_i, ge_i, le_i, lt_i, gt_i, add_i, sub_i, int_i, chl, chle, id_eq, ble_ok, Nat.reduceAdd, List.length_cons, List.length_nil, decide_true, decide_false, Bool.not_true, Bool.not_false, Nat.zero_add, Nat.reduceLeDiff, Int.cast_ofNat_Int, g0, s0, g1, s1, g2, s2, g3, s3, g4, s4, g5, s5, g6, s6, g7, s7, g8, s8, g9, s9, g10, s10, g11, s11, g12, s12, g13, s13, g14, s14, g15, s15, g16, s16, g17, s17, g18, s18, g19, s19, g20, s20, g21, s21, g22, s22, g23, s23, g24, s24, g25, s25, g26, s26, g27, s27, g28, s28, g29, s29, g30, s30, g31, s31, g32, s32, g33, s33, g34, s34, g35, s35, g36, s36, g37, s37, g38, s38, g39, s39, h1], rfl⟩) (lenb C)
    have e2 := anyB_mapg (inY y) c
    simp only [runK, sSqK, sIfK, sIfP, tOrK, tAndK, tNotK, tValK, liE, liT, liL, liI, liO, pNotT, pT, p1, p2, pK, pCons, pNil, pYes, pSeq, pAndE, pOrE, pNotE, pAndT, pOrT, pChain, pIf, pTup, pLst, pLc, pDic, pR1, pR2, sRetP, sRetK, sAsP, sAsK, sAoP, sAoK, sDrpK, sPar2K, sPar3K, sForP, sForK, sAppC, mAndK, mOrK, mNotK, mIfK, lConsK, mTupK, mLstK, mMK, m1K, m2K, mLcK, mCallP, mCallK, in_nil, in_cons, re_zero, re_succ, bk_ok, bk_dr, opK_some, opK_none, ooK_some, ooK_none, bK_t, bK_f, hd_cons, tl_cons, s0_cons, st_cons, fl_nx, fl_rt, fl_bk, fl_ct, rt_rt, rt_nx, dB_bl, dI_int, sq_tup, sq_lst, at_tup, al_nil, al_cons, nm_set, isi_tup_t, nh_int, nh_tup, nh_lst, nh_bl, nh_all_nil, nh_all_cons, ln_nil, ln_cons, lc_nil, lc_cons, lk_nil, lk_cons, fo_nil, fo_cons, all_l, any_l, allB_nil, anyB_nil, allB_cons, anyB_cons, ix_t0, ix_l0, ix_l1, ix_t1, ix_t2, ix_t3, pSl, pNo, pPart, pEnum, skip_nx, seq_k, fclk_eq, fck_eq, len_t, len_l, eq_i, ge_i, le_i, lt_i, gt_i, add_i, sub_i, int_i, chl, chle, id_eq, ble_ok, Nat.reduceAdd, List.length_cons, List.length_nil, decide_true, decide_false, Bool.not_true, Bool.not_false, Nat.zero_add, Nat.reduceLeDiff, Int.cast_ofNat_Int, g0, s0, g1, s1, g2, s2, g3, s3, g4, s4, g5, s5, g6, s6, g7, s7, g8, s8, g9, s9, g10, s10, g11, s11, g12, s12, g13, s13, g14, s14, g15, s15, g16, s16, g17, s17, g18, s18, g19, s19, g20, s20, g21, s21, g22, s22, g23, s23, g24, s24, g25, s25, g26, s26, g27, s27, g28, s28, g29, s29, g30, s30, g31, s31, g32, s32, g33, s33, g34, s34, g35, s35, g36, s36, g37, s37, g38, s38, g39, s39] at e
    simp only [runK, sSqK, sIfK, sIfP, tOrK, tAndK, tNotK, tValK, liE, liT, liL, liI, liO, pNotT, pT, p1, p2, pK, pCons, pNil, pYes, pSeq, pAndE, pOrE, pNotE, pAndT, pOrT, pChain, pIf, pTup, pLst, pLc, pDic, pR1, pR2, sRetP, sRetK, sAsP, sAsK, sAoP, sAoK, sDrpK, sPar2K, sPar3K, sForP, sForK, sAppC, mAndK, mOrK, mNotK, mIfK, lConsK, mTupK, mLstK, mMK, m1K, m2K, mLcK, mCallP, mCallK, in_nil, in_cons, re_zero, re_succ, bk_ok, bk_dr, opK_some, opK_none, ooK_some, ooK_none, bK_t, bK_f, hd_cons, tl_cons, s0_cons, st_cons, fl_nx, fl_rt, fl_bk, fl_ct, rt_rt, rt_nx, dB_bl, dI_int, sq_tup, sq_lst, at_tup, al_nil, al_cons, nm_set, isi_tup_t, nh_int, nh_tup, nh_lst, nh_bl, nh_all_nil, nh_all_cons, ln_nil, ln_cons, lc_nil, lc_cons, lk_nil, lk_cons, fo_nil, fo_cons, all_l, any_l, allB_nil, anyB_nil, allB_cons, anyB_cons, ix_t0, ix_l0, ix_l1, ix_t1, ix_t2, ix_t3, pSl, pNo, pPart, pEnum, skip_nx, seq_k, fclk_eq, fck_eq, len_t, len_l, eq_i, ge_i, le_i, lt_i, gt_i, add_i, sub_i, int_i, chl, chle, id_eq, ble_ok, Nat.reduceAdd, List.length_cons, List.length_nil, decide_true, decide_false, Bool.not_true, Bool.not_false, Nat.zero_add, Nat.reduceLeDiff, Int.cast_ofNat_Int, g0, s0, g1, s1, g2, s2, g3, s3, g4, s4, g5, s5, g6, s6, g7, s7, g8, s8, g9, s9, g10, s10, g11, s11, g12, s12, g13, s13, g14, s14, g15, s15, g16, s16, g17, s17, g18, s18, g19, s19, g20, s20, g21, s21, g22, s22, g23, s23, g24, s24, g25, s25, g26, s26, g27, s27, g28, s28, g29, s29, g30, s30, g31, s31, g32, s32, g33, s33, g34, s34, g35, s35, g36, s36, g37, s37, g38, s38, g39, s39, e, e2]
    generalize c.any _ = z
    cases z <;> rfl, rfl, rfl⟩) (by rw [ivl_len]; omega)
  have e3 := lcP_filterg (A := aNm s6) (st := [some (cD c), some (.lst ((lev c H).map D.int)), none, some (.int W), some (.int H), none, none, none]) (c := (pNotT (pT (p1 oAnyK (pLc (pSeq g0) (aNm s7) (fun st => s7 none (id st)) pYes (pChain (iop .lt) (iop .lt) (p2 oIxK g7 (pK (.int 0))) g6 (p2 oAddK (p2 oIxK g7 (pK (.int 0))) (p2 oIxK g7 (pK (.int 2)))))))))) (e := g6) (g := D.int) (h := D.int) (f := fun x => !(c.any (inX x))) (ivl 1 (W - 1).toNat) 0 (fun y hy => ⟨[some (cD c), some (.lst ((lev c H).map D.int)), none, some (.int W), some (.int H), none, some (.int y), none], rfl, by
    have e := lcP_mapg (A := aNm s7) (st := [some (cD c), some (.lst ((lev c H).map D.int)), none, some (.int W), some (.int H), none, some (.int y), none]) (c := pYes) (e := (pChain (iop .lt) (iop .lt) (p2 oIxK g7 (pK (.int 0))) g6 (p2 oAddK (p2 oIxK g7 (pK (.int 0))) (p2 oIxK g7 (pK (.int 2)))))) (g := R4.d) (h := fun r => .bl (inX y r)) c 0 (fun r hr => ⟨[some (cD c), some (.lst ((lev c H).map D.int)), none, some (.int W), some (.int H), none, some (.int y), some r.d], rfl, rfl, by
      unfold inX
      cases h1 : decide (r.x < y) <;> simp only [R4.d, runK, sSqK, sIfK, sIfP, tOrK, tAndK, tNotK, tValK, liE, liT, liL, liI, liO, pNotT, pT, p1, p2, pK, pCons, pNil, pYes, pSeq, pAndE, pOrE, pNotE, pAndT, pOrT, pChain, pIf, pTup, pLst, pLc, pDic, pR1, pR2, sRetP, sRetK, sAsP, sAsK, sAoP, sAoK, sDrpK, sPar2K, sPar3K, sForP, sForK, sAppC, mAndK, mOrK, mNotK, mIfK, lConsK, mTupK, mLstK, mMK, m1K, m2K, mLcK, mCallP, mCallK, in_nil, in_cons, re_zero, re_succ, bk_ok, bk_dr, opK_some, opK_none, ooK_some, ooK_none, bK_t, bK_f, hd_cons, tl_cons, s0_cons, st_cons, fl_nx, fl_rt, fl_bk, fl_ct, rt_rt, rt_nx, dB_bl, dI_int, sq_tup, sq_lst, at_tup, al_nil, al_cons, nm_set, isi_tup_t, nh_int, nh_tup, nh_lst, nh_bl, nh_all_nil, nh_all_cons, ln_nil, ln_cons, lc_nil, lc_cons, lk_nil, lk_cons, fo_nil, fo_cons, all_l, any_l, allB_nil, anyB_nil, allB_cons, anyB_cons, ix_t0, ix_l0, ix_l1, ix_t1, ix_t2, ix_t3, pSl, pNo, pPart, pEnum, skip_nx, seq_k, fclk_eq, fck_eq, len_t, len_l, eq_i, ge_i, le_i, lt_i, gt_i, add_i, sub_i, int_i, chl, chle, id_eq, ble_ok, Nat.reduceAdd, List.length_cons, List.length_nil, decide_true, decide_false, Bool.not_true, Bool.not_false, Nat.zero_add, Nat.reduceLeDiff, Int.cast_ofNat_Int, g0, s0, g1, s1, g2, s2, g3, s3, g4, s4, g5, s5, g6, s6, g7, s7, g8, s8, g9, s9, g10, s10, g11, s11, g12, s12, g13, s13, g14, s14, g15, s15, g16, s16, g17, s17, g18, s18, g19, s19, g20, s20, g21, s21, g22, s22, g23, s23, g24, s24, g25, s25, g26, s26, g27, s27, g28, s28, g29, s29, g30, s30, g31, s31, g32, s32, g33, s33, g34, s34, g35, s35, g36, s36, g37, s37, g38, s38, g39, s39, h1], rfl⟩) (lenb C)
    have e2 := anyB_mapg (inX y) c
    simp only [runK, sSqK, sIfK, sIfP, tOrK, tAndK, tNotK, tValK, liE, liT, liL, liI, liO, pNotT, pT, p1, p2, pK, pCons, pNil, pYes, pSeq, pAndE, pOrE, pNotE, pAndT, pOrT, pChain, pIf, pTup, pLst, pLc, pDic, pR1, pR2, sRetP, sRetK, sAsP, sAsK, sAoP, sAoK, sDrpK, sPar2K, sPar3K, sForP, sForK, sAppC, mAndK, mOrK, mNotK, mIfK, lConsK, mTupK, mLstK, mMK, m1K, m2K, mLcK, mCallP, mCallK, in_nil, in_cons, re_zero, re_succ, bk_ok, bk_dr, opK_some, opK_none, ooK_some, ooK_none, bK_t, bK_f, hd_cons, tl_cons, s0_cons, st_cons, fl_nx, fl_rt, fl_bk, fl_ct, rt_rt, rt_nx, dB_bl, dI_int, sq_tup, sq_lst, at_tup, al_nil, al_cons, nm_set, isi_tup_t, nh_int, nh_tup, nh_lst, nh_bl, nh_all_nil, nh_all_cons, ln_nil, ln_cons, lc_nil, lc_cons, lk_nil, lk_cons, fo_nil, fo_cons, all_l, any_l, allB_nil, anyB_nil, allB_cons, anyB_cons, ix_t0, ix_l0, ix_l1, ix_t1, ix_t2, ix_t3, pSl, pNo, pPart, pEnum, skip_nx, seq_k, fclk_eq, fck_eq, len_t, len_l, eq_i, ge_i, le_i, lt_i, gt_i, add_i, sub_i, int_i, chl, chle, id_eq, ble_ok, Nat.reduceAdd, List.length_cons, List.length_nil, decide_true, decide_false, Bool.not_true, Bool.not_false, Nat.zero_add, Nat.reduceLeDiff, Int.cast_ofNat_Int, g0, s0, g1, s1, g2, s2, g3, s3, g4, s4, g5, s5, g6, s6, g7, s7, g8, s8, g9, s9, g10, s10, g11, s11, g12, s12, g13, s13, g14, s14, g15, s15, g16, s16, g17, s17, g18, s18, g19, s19, g20, s20, g21, s21, g22, s22, g23, s23, g24, s24, g25, s25, g26, s26, g27, s27, g28, s28, g29, s29, g30, s30, g31, s31, g32, s32, g33, s33, g34, s34, g35, s35, g36, s36, g37, s37, g38, s38, g39, s39] at e
    simp only [runK, sSqK, sIfK, sIfP, tOrK, tAndK, tNotK, tValK, liE, liT, liL, liI, liO, pNotT, pT, p1, p2, pK, pCons, pNil, pYes, pSeq, pAndE, pOrE, pNotE, pAndT, pOrT, pChain, pIf, pTup, pLst, pLc, pDic, pR1, pR2, sRetP, sRetK, sAsP, sAsK, sAoP, sAoK, sDrpK, sPar2K, sPar3K, sForP, sForK, sAppC, mAndK, mOrK, mNotK, mIfK, lConsK, mTupK, mLstK, mMK, m1K, m2K, mLcK, mCallP, mCallK, in_nil, in_cons, re_zero, re_succ, bk_ok, bk_dr, opK_some, opK_none, ooK_some, ooK_none, bK_t, bK_f, hd_cons, tl_cons, s0_cons, st_cons, fl_nx, fl_rt, fl_bk, fl_ct, rt_rt, rt_nx, dB_bl, dI_int, sq_tup, sq_lst, at_tup, al_nil, al_cons, nm_set, isi_tup_t, nh_int, nh_tup, nh_lst, nh_bl, nh_all_nil, nh_all_cons, ln_nil, ln_cons, lc_nil, lc_cons, lk_nil, lk_cons, fo_nil, fo_cons, all_l, any_l, allB_nil, anyB_nil, allB_cons, anyB_cons, ix_t0, ix_l0, ix_l1, ix_t1, ix_t2, ix_t3, pSl, pNo, pPart, pEnum, skip_nx, seq_k, fclk_eq, fck_eq, len_t, len_l, eq_i, ge_i, le_i, lt_i, gt_i, add_i, sub_i, int_i, chl, chle, id_eq, ble_ok, Nat.reduceAdd, List.length_cons, List.length_nil, decide_true, decide_false, Bool.not_true, Bool.not_false, Nat.zero_add, Nat.reduceLeDiff, Int.cast_ofNat_Int, g0, s0, g1, s1, g2, s2, g3, s3, g4, s4, g5, s5, g6, s6, g7, s7, g8, s8, g9, s9, g10, s10, g11, s11, g12, s12, g13, s13, g14, s14, g15, s15, g16, s16, g17, s17, g18, s18, g19, s19, g20, s20, g21, s21, g22, s22, g23, s23, g24, s24, g25, s25, g26, s26, g27, s27, g28, s28, g29, s29, g30, s30, g31, s31, g32, s32, g33, s33, g34, s34, g35, s35, g36, s36, g37, s37, g38, s38, g39, s39, e, e2]
    generalize c.any _ = z
    cases z <;> rfl, rfl, rfl⟩) (by rw [ivl_len]; omega)
  have f1 : fits62 1 = true := fits_ok (by omega) (by omega)
  have fW : fits62 W = true := fits_ok (by omega) (by omega)
  have fH : fits62 H = true := fits_ok (by omega) (by omega)
  have e1 : lcP _ _ _ _ _ _ = some ((lev c H).map D.int) := e1
  have e3 : lcP _ _ _ _ _ _ = some ((upr c W).map D.int) := e3
  simp only [runK, sSqK, sIfK, sIfP, tOrK, tAndK, tNotK, tValK, liE, liT, liL, liI, liO, pNotT, pT, p1, p2, pK, pCons, pNil, pYes, pSeq, pAndE, pOrE, pNotE, pAndT, pOrT, pChain, pIf, pTup, pLst, pLc, pDic, pR1, pR2, sRetP, sRetK, sAsP, sAsK, sAoP, sAoK, sDrpK, sPar2K, sPar3K, sForP, sForK, sAppC, mAndK, mOrK, mNotK, mIfK, lConsK, mTupK, mLstK, mMK, m1K, m2K, mLcK, mCallP, mCallK, in_nil, in_cons, re_zero, re_succ, bk_ok, bk_dr, opK_some, opK_none, ooK_some, ooK_none, bK_t, bK_f, hd_cons, tl_cons, s0_cons, st_cons, fl_nx, fl_rt, fl_bk, fl_ct, rt_rt, rt_nx, dB_bl, dI_int, sq_tup, sq_lst, at_tup, al_nil, al_cons, nm_set, isi_tup_t, nh_int, nh_tup, nh_lst, nh_bl, nh_all_nil, nh_all_cons, ln_nil, ln_cons, lc_nil, lc_cons, lk_nil, lk_cons, fo_nil, fo_cons, all_l, any_l, allB_nil, anyB_nil, allB_cons, anyB_cons, ix_t0, ix_l0, ix_l1, ix_t1, ix_t2, ix_t3, pSl, pNo, pPart, pEnum, skip_nx, seq_k, fclk_eq, fck_eq, len_t, len_l, eq_i, ge_i, le_i, lt_i, gt_i, add_i, sub_i, int_i, chl, chle, id_eq, ble_ok, Nat.reduceAdd, List.length_cons, List.length_nil, decide_true, decide_false, Bool.not_true, Bool.not_false, Nat.zero_add, Nat.reduceLeDiff, Int.cast_ofNat_Int, g0, s0, g1, s1, g2, s2, g3, s3, g4, s4, g5, s5, g6, s6, g7, s7, g8, s8, g9, s9, g10, s10, g11, s11, g12, s12, g13, s13, g14, s14, g15, s15, g16, s16, g17, s17, g18, s18, g19, s19, g20, s20, g21, s21, g22, s22, g23, s23, g24, s24, g25, s25, g26, s26, g27, s27, g28, s28, g29, s29, g30, s30, g31, s31, g32, s32, g33, s33, g34, s34, g35, s35, g36, s36, g37, s37, g38, s38, g39, s39] at e1 e3
  simp only [F14, nn14, runK, sSqK, sIfK, sIfP, tOrK, tAndK, tNotK, tValK, liE, liT, liL, liI, liO, pNotT, pT, p1, p2, pK, pCons, pNil, pYes, pSeq, pAndE, pOrE, pNotE, pAndT, pOrT, pChain, pIf, pTup, pLst, pLc, pDic, pR1, pR2, sRetP, sRetK, sAsP, sAsK, sAoP, sAoK, sDrpK, sPar2K, sPar3K, sForP, sForK, sAppC, mAndK, mOrK, mNotK, mIfK, lConsK, mTupK, mLstK, mMK, m1K, m2K, mLcK, mCallP, mCallK, in_nil, in_cons, re_zero, re_succ, bk_ok, bk_dr, opK_some, opK_none, ooK_some, ooK_none, bK_t, bK_f, hd_cons, tl_cons, s0_cons, st_cons, fl_nx, fl_rt, fl_bk, fl_ct, rt_rt, rt_nx, dB_bl, dI_int, sq_tup, sq_lst, at_tup, al_nil, al_cons, nm_set, isi_tup_t, nh_int, nh_tup, nh_lst, nh_bl, nh_all_nil, nh_all_cons, ln_nil, ln_cons, lc_nil, lc_cons, lk_nil, lk_cons, fo_nil, fo_cons, all_l, any_l, allB_nil, anyB_nil, allB_cons, anyB_cons, ix_t0, ix_l0, ix_l1, ix_t1, ix_t2, ix_t3, pSl, pNo, pPart, pEnum, skip_nx, seq_k, fclk_eq, fck_eq, len_t, len_l, eq_i, ge_i, le_i, lt_i, gt_i, add_i, sub_i, int_i, chl, chle, id_eq, ble_ok, Nat.reduceAdd, List.length_cons, List.length_nil, decide_true, decide_false, Bool.not_true, Bool.not_false, Nat.zero_add, Nat.reduceLeDiff, Int.cast_ofNat_Int, g0, s0, g1, s1, g2, s2, g3, s3, g4, s4, g5, s5, g6, s6, g7, s7, g8, s8, g9, s9, g10, s10, g11, s11, g12, s12, g13, s13, g14, s14, g15, s15, g16, s16, g17, s17, g18, s18, g19, s19, g20, s20, g21, s21, g22, s22, g23, s23, g24, s24, g25, s25, g26, s26, g27, s27, g28, s28, g29, s29, g30, s30, g31, s31, g32, s32, g33, s33, g34, s34, g35, s35, g36, s36, g37, s37, g38, s38, g39, s39, t11 C, t8 C, f1, fW, fH, rngK_ivl, e1, e3]
end
/-- a line beside the new square goes through -/
theorem upr_sq {W H : Int} {c : List R4} (C : Cut W H c) : W ∈ upr (c ++ [sq W H true]) (W + H) := by
  have W1 := C.W1
  have H1 := C.H1
  unfold upr
  rw [List.mem_filter]
  refine ⟨ivl_mem (by omega) (by omega), ?_⟩
  rw [Bool.not_eq_true', List.any_eq_false]
  intro r hr h
  unfold inX at h
  rcases List.mem_append.mp hr with q | q
  · have := (C.inb r q).xw
    rw [decide_eq_false (show ¬ W < r.x + r.w by omega)] at h
    cases e : decide (r.x < W) <;> rw [e] at h <;> cases h
  · cases List.mem_singleton.mp q
    rw [show decide ((sq W H true).x < W) = false from decide_eq_false (by show ¬ W < W; omega)] at h
    cases h
theorem lev_tr (c : List R4) (W : Int) : lev (c.map tr) W = upr c W := by
  unfold lev upr
  congr 1
  funext y
  rw [List.any_map]
  rfl
theorem upr_tr (c : List R4) (H : Int) : upr (c.map tr) H = lev c H := by
  unfold lev upr
  congr 1
  funext y
  rw [List.any_map]
  rfl
theorem lev_sq {W H : Int} {c : List R4} (C : Cut W H c) : H ∈ lev (c ++ [sq W H false]) (H + W) := by
  have := upr_sq C.tr
  rw [← lev_tr, List.map_append, map_map2, show (fun a => tr (tr a)) = id from rfl, List.map_id] at this
  exact this
theorem memK_int {i : Int} : ∀ {l : List Int}, i ∈ l → memK (.int i) (l.map D.int) = true
  | [], h => nomatch h
  | x :: r, h => by
    show bK (eqIK x i) true (memK (.int i) (r.map D.int)) = true
    rw [eqIK_eq]
    by_cases e : x = i
    · rw [decide_eq_true e]; rfl
    · rw [decide_eq_false e]
      rcases List.mem_cons.mp h with q | q
      · exact absurd q.symm e
      · exact memK_int q
end EV
set_option maxHeartbeats 0
namespace EV
open PySem PySem.Spec PyProof.Rows L2 RZ
/-! the common divisor -/
noncomputable abbrev tG : MT := liT (pT (p2 oGtK g1 (pK (.int 0))))
noncomputable abbrev bG : MS := sSqK (sPar2K s0 s1 (liE g1) (liE (p2 oModK (p1 oInt g0) g1))) sSkip
theorem wh_succ (t : MT) (b : MS) (n : Nat) (st : AS) : whK t b (n + 1) st = bindK (t st) fun p => bK p.1 (bindK (b p.2) fun f => flK f (whK t b n) (fun d => .ok (.rt d)) (fun s => .ok (.nx s)) (whK t b n)) (.ok (.nx p.2)) := rfl
theorem sq_nx {a b : MS} {st st' : AS} (h : a st = .ok (.nx st')) : sSqK a b st = b st' := by
  unfold sSqK
  rw [h, bk_ok, fl_nx]
theorem g_step {a b : Int} (n : Nat) (h : 0 < b) : whK tG bG (n + 1) [some (.int a), some (.int b)] = whK tG bG n [some (.int b), some (.int (a.fmod b))] := by
  rw [wh_succ]
  have h1 : decide (0 < b) = true := decide_eq_true h
  simp only [runK, sSqK, sIfK, sIfP, tOrK, tAndK, tNotK, tValK, liE, liT, liL, liI, liO, pNotT, pT, p1, p2, pK, pCons, pNil, pYes, pSeq, pAndE, pOrE, pNotE, pAndT, pOrT, pChain, pIf, pTup, pLst, pLc, pDic, pR1, pR2, sRetP, sRetK, sAsP, sAsK, sAoP, sAoK, sDrpK, sPar2K, sPar3K, sForP, sForK, sAppC, mAndK, mOrK, mNotK, mIfK, lConsK, mTupK, mLstK, mMK, m1K, m2K, mLcK, mCallP, mCallK, in_nil, in_cons, re_zero, re_succ, bk_ok, bk_dr, opK_some, opK_none, ooK_some, ooK_none, bK_t, bK_f, hd_cons, tl_cons, s0_cons, st_cons, fl_nx, fl_rt, fl_bk, fl_ct, rt_rt, rt_nx, dB_bl, dI_int, sq_tup, sq_lst, at_tup, al_nil, al_cons, nm_set, isi_tup_t, nh_int, nh_tup, nh_lst, nh_bl, nh_all_nil, nh_all_cons, ln_nil, ln_cons, lc_nil, lc_cons, lk_nil, lk_cons, fo_nil, fo_cons, all_l, any_l, allB_nil, anyB_nil, allB_cons, anyB_cons, ix_t0, ix_l0, ix_l1, ix_t1, ix_t2, ix_t3, pSl, pNo, pPart, pEnum, skip_nx, seq_k, fclk_eq, fck_eq, len_t, len_l, eq_i, ge_i, le_i, lt_i, gt_i, add_i, sub_i, int_i, chl, chle, id_eq, ble_ok, Nat.reduceAdd, List.length_cons, List.length_nil, decide_true, decide_false, Bool.not_true, Bool.not_false, Nat.zero_add, Nat.reduceLeDiff, Int.cast_ofNat_Int, g0, s0, g1, s1, g2, s2, g3, s3, g4, s4, g5, s5, g6, s6, g7, s7, g8, s8, g9, s9, g10, s10, g11, s11, g12, s12, g13, s13, g14, s14, g15, s15, g16, s16, g17, s17, g18, s18, g19, s19, g20, s20, g21, s21, g22, s22, g23, s23, g24, s24, g25, s25, g26, s26, g27, s27, g28, s28, g29, s29, g30, s30, g31, s31, g32, s32, g33, s33, g34, s34, g35, s35, g36, s36, g37, s37, g38, s38, g39, s39, h1, mod_i (show b ≠ 0 by omega)]
theorem g_stop {a : Int} (n : Nat) : whK tG bG (n + 1) [some (.int a), some (.int 0)] = .ok (.nx [some (.int a), some (.int 0)]) := by
  rw [wh_succ]
  have h1 : decide ((0 : Int) < 0) = false := rfl
  simp only [runK, sSqK, sIfK, sIfP, tOrK, tAndK, tNotK, tValK, liE, liT, liL, liI, liO, pNotT, pT, p1, p2, pK, pCons, pNil, pYes, pSeq, pAndE, pOrE, pNotE, pAndT, pOrT, pChain, pIf, pTup, pLst, pLc, pDic, pR1, pR2, sRetP, sRetK, sAsP, sAsK, sAoP, sAoK, sDrpK, sPar2K, sPar3K, sForP, sForK, sAppC, mAndK, mOrK, mNotK, mIfK, lConsK, mTupK, mLstK, mMK, m1K, m2K, mLcK, mCallP, mCallK, in_nil, in_cons, re_zero, re_succ, bk_ok, bk_dr, opK_some, opK_none, ooK_some, ooK_none, bK_t, bK_f, hd_cons, tl_cons, s0_cons, st_cons, fl_nx, fl_rt, fl_bk, fl_ct, rt_rt, rt_nx, dB_bl, dI_int, sq_tup, sq_lst, at_tup, al_nil, al_cons, nm_set, isi_tup_t, nh_int, nh_tup, nh_lst, nh_bl, nh_all_nil, nh_all_cons, ln_nil, ln_cons, lc_nil, lc_cons, lk_nil, lk_cons, fo_nil, fo_cons, all_l, any_l, allB_nil, anyB_nil, allB_cons, anyB_cons, ix_t0, ix_l0, ix_l1, ix_t1, ix_t2, ix_t3, pSl, pNo, pPart, pEnum, skip_nx, seq_k, fclk_eq, fck_eq, len_t, len_l, eq_i, ge_i, le_i, lt_i, gt_i, add_i, sub_i, int_i, chl, chle, id_eq, ble_ok, Nat.reduceAdd, List.length_cons, List.length_nil, decide_true, decide_false, Bool.not_true, Bool.not_false, Nat.zero_add, Nat.reduceLeDiff, Int.cast_ofNat_Int, g0, s0, g1, s1, g2, s2, g3, s3, g4, s4, g5, s5, g6, s6, g7, s7, g8, s8, g9, s9, g10, s10, g11, s11, g12, s12, g13, s13, g14, s14, g15, s15, g16, s16, g17, s17, g18, s18, g19, s19, g20, s20, g21, s21, g22, s22, g23, s23, g24, s24, g25, s25, g26, s26, g27, s27, g28, s28, g29, s29, g30, s30, g31, s31, g32, s32, g33, s33, g34, s34, g35, s35, g36, s36, g37, s37, g38, s38, g39, s39, h1]
theorem g_loop (M : Int) : ∀ (n : Nat) (a b : Int), 0 ≤ a → 0 ≤ b → 1 ≤ a + b → a ≤ M → b ≤ M → b < n → ∃ g, 1 ≤ g ∧ g ≤ M ∧ whK tG bG n [some (.int a), some (.int b)] = .ok (.nx [some (.int g), some (.int 0)])
  | 0, a, b, _, h, _, _, _, hn => by omega
  | n + 1, a, b, h1, h2, h3, h4, h5, h6 => by
    by_cases e : b = 0
    · subst e
      exact ⟨a, by omega, h4, g_stop n⟩
    · have m1 := Int.fmod_lt_of_pos a (show 0 < b by omega)
      have m0 := Int.fmod_nonneg_of_pos a (show 0 < b by omega)
      rw [g_step n (by omega)]
      exact g_loop M n b (a.fmod b) h2 m0 (by omega) h5 (by omega) (by omega)
theorem F0_of {a b g : Int} (h : whK tG bG 1000 [some (.int a), some (.int b)] = .ok (.nx [some (.int g), some (.int 0)])) : F0 [.int a, .int b] = .ok (.int g) := by
  unfold tG bG at h
  simp only [runK, sSqK, sIfK, sIfP, tOrK, tAndK, tNotK, tValK, liE, liT, liL, liI, liO, pNotT, pT, p1, p2, pK, pCons, pNil, pYes, pSeq, pAndE, pOrE, pNotE, pAndT, pOrT, pChain, pIf, pTup, pLst, pLc, pDic, pR1, pR2, sRetP, sRetK, sAsP, sAsK, sAoP, sAoK, sDrpK, sPar2K, sPar3K, sForP, sForK, sAppC, mAndK, mOrK, mNotK, mIfK, lConsK, mTupK, mLstK, mMK, m1K, m2K, mLcK, mCallP, mCallK, in_nil, in_cons, re_zero, re_succ, bk_ok, bk_dr, opK_some, opK_none, ooK_some, ooK_none, bK_t, bK_f, hd_cons, tl_cons, s0_cons, st_cons, fl_nx, fl_rt, fl_bk, fl_ct, rt_rt, rt_nx, dB_bl, dI_int, sq_tup, sq_lst, at_tup, al_nil, al_cons, nm_set, isi_tup_t, nh_int, nh_tup, nh_lst, nh_bl, nh_all_nil, nh_all_cons, ln_nil, ln_cons, lc_nil, lc_cons, lk_nil, lk_cons, fo_nil, fo_cons, all_l, any_l, allB_nil, anyB_nil, allB_cons, anyB_cons, ix_t0, ix_l0, ix_l1, ix_t1, ix_t2, ix_t3, pSl, pNo, pPart, pEnum, skip_nx, seq_k, fclk_eq, fck_eq, len_t, len_l, eq_i, ge_i, le_i, lt_i, gt_i, add_i, sub_i, int_i, chl, chle, id_eq, ble_ok, Nat.reduceAdd, List.length_cons, List.length_nil, decide_true, decide_false, Bool.not_true, Bool.not_false, Nat.zero_add, Nat.reduceLeDiff, Int.cast_ofNat_Int, g0, s0, g1, s1, g2, s2, g3, s3, g4, s4, g5, s5, g6, s6, g7, s7, g8, s8, g9, s9, g10, s10, g11, s11, g12, s12, g13, s13, g14, s14, g15, s15, g16, s16, g17, s17, g18, s18, g19, s19, g20, s20, g21, s21, g22, s22, g23, s23, g24, s24, g25, s25, g26, s26, g27, s27, g28, s28, g29, s29, g30, s30, g31, s31, g32, s32, g33, s33, g34, s34, g35, s35, g36, s36, g37, s37, g38, s38, g39, s39] at h
  simp only [F0, nn0, runK, sSqK, sIfK, sIfP, tOrK, tAndK, tNotK, tValK, liE, liT, liL, liI, liO, pNotT, pT, p1, p2, pK, pCons, pNil, pYes, pSeq, pAndE, pOrE, pNotE, pAndT, pOrT, pChain, pIf, pTup, pLst, pLc, pDic, pR1, pR2, sRetP, sRetK, sAsP, sAsK, sAoP, sAoK, sDrpK, sPar2K, sPar3K, sForP, sForK, sAppC, mAndK, mOrK, mNotK, mIfK, lConsK, mTupK, mLstK, mMK, m1K, m2K, mLcK, mCallP, mCallK, in_nil, in_cons, re_zero, re_succ, bk_ok, bk_dr, opK_some, opK_none, ooK_some, ooK_none, bK_t, bK_f, hd_cons, tl_cons, s0_cons, st_cons, fl_nx, fl_rt, fl_bk, fl_ct, rt_rt, rt_nx, dB_bl, dI_int, sq_tup, sq_lst, at_tup, al_nil, al_cons, nm_set, isi_tup_t, nh_int, nh_tup, nh_lst, nh_bl, nh_all_nil, nh_all_cons, ln_nil, ln_cons, lc_nil, lc_cons, lk_nil, lk_cons, fo_nil, fo_cons, all_l, any_l, allB_nil, anyB_nil, allB_cons, anyB_cons, ix_t0, ix_l0, ix_l1, ix_t1, ix_t2, ix_t3, pSl, pNo, pPart, pEnum, skip_nx, seq_k, fclk_eq, fck_eq, len_t, len_l, eq_i, ge_i, le_i, lt_i, gt_i, add_i, sub_i, int_i, chl, chle, id_eq, ble_ok, Nat.reduceAdd, List.length_cons, List.length_nil, decide_true, decide_false, Bool.not_true, Bool.not_false, Nat.zero_add, Nat.reduceLeDiff, Int.cast_ofNat_Int, g0, s0, g1, s1, g2, s2, g3, s3, g4, s4, g5, s5, g6, s6, g7, s7, g8, s8, g9, s9, g10, s10, g11, s11, g12, s12, g13, s13, g14, s14, g15, s15, g16, s16, g17, s17, g18, s18, g19, s19, g20, s20, g21, s21, g22, s22, g23, s23, g24, s24, g25, s25, g26, s26, g27, s27, g28, s28, g29, s29, g30, s30, g31, s31, g32, s32, g33, s33, g34, s34, g35, s35, g36, s36, g37, s37, g38, s38, g39, s39, h]
theorem F0_ex {a b : Int} (h1 : 0 ≤ a) (h2 : 1 ≤ b) (h3 : a ≤ 900) (h4 : b ≤ 900) : ∃ g, 1 ≤ g ∧ g ≤ 900 ∧ F0 [.int a, .int b] = .ok (.int g) := by
  obtain ⟨g, g1, g2, e⟩ := g_loop 900 1000 a b h1 (by omega) (by omega) h3 h4 (by omega)
  exact ⟨g, g1, g2, F0_of e⟩
theorem F0_div {a b : Int} (h2 : 1 ≤ b) (h : a.fmod b = 0) : F0 [.int a, .int b] = .ok (.int b) := by
  refine F0_of ?_
  have e1 := g_step (a := a) (b := b) 999 (by omega)
  have e2 := g_stop (a := b) 998
  rw [h] at e1
  exact e1.trans e2
theorem F1_of {a b g : Int} (h1 : 0 ≤ a) (h2 : 1 ≤ b) (h3 : 1 ≤ g) (h4 : g ≤ 900) (h : F0 [.int a, .int b] = .ok (.int g)) : F1 [.int a, .int b] = .ok (P2.d (a.fdiv g, b.fdiv g)) := by
  have n1 : decide (b < 0) = false := decide_eq_false (by omega)
  have n2 : oAbs (.int a) = some (.int a) := by
    show some (D.int (if a < 0 then -a else a)) = _
    rw [if_neg (by omega)]
  have d1 := div_i (i := a) (j := g) (by omega) (by omega)
  have d2 := div_i (i := b) (j := g) (by omega) (by omega)
  simp only [F1, nn1, runK, sSqK, sIfK, sIfP, tOrK, tAndK, tNotK, tValK, liE, liT, liL, liI, liO, pNotT, pT, p1, p2, pK, pCons, pNil, pYes, pSeq, pAndE, pOrE, pNotE, pAndT, pOrT, pChain, pIf, pTup, pLst, pLc, pDic, pR1, pR2, sRetP, sRetK, sAsP, sAsK, sAoP, sAoK, sDrpK, sPar2K, sPar3K, sForP, sForK, sAppC, mAndK, mOrK, mNotK, mIfK, lConsK, mTupK, mLstK, mMK, m1K, m2K, mLcK, mCallP, mCallK, in_nil, in_cons, re_zero, re_succ, bk_ok, bk_dr, opK_some, opK_none, ooK_some, ooK_none, bK_t, bK_f, hd_cons, tl_cons, s0_cons, st_cons, fl_nx, fl_rt, fl_bk, fl_ct, rt_rt, rt_nx, dB_bl, dI_int, sq_tup, sq_lst, at_tup, al_nil, al_cons, nm_set, isi_tup_t, nh_int, nh_tup, nh_lst, nh_bl, nh_all_nil, nh_all_cons, ln_nil, ln_cons, lc_nil, lc_cons, lk_nil, lk_cons, fo_nil, fo_cons, all_l, any_l, allB_nil, anyB_nil, allB_cons, anyB_cons, ix_t0, ix_l0, ix_l1, ix_t1, ix_t2, ix_t3, pSl, pNo, pPart, pEnum, skip_nx, seq_k, fclk_eq, fck_eq, len_t, len_l, eq_i, ge_i, le_i, lt_i, gt_i, add_i, sub_i, int_i, chl, chle, id_eq, ble_ok, Nat.reduceAdd, List.length_cons, List.length_nil, decide_true, decide_false, Bool.not_true, Bool.not_false, Nat.zero_add, Nat.reduceLeDiff, Int.cast_ofNat_Int, g0, s0, g1, s1, g2, s2, g3, s3, g4, s4, g5, s5, g6, s6, g7, s7, g8, s8, g9, s9, g10, s10, g11, s11, g12, s12, g13, s13, g14, s14, g15, s15, g16, s16, g17, s17, g18, s18, g19, s19, g20, s20, g21, s21, g22, s22, g23, s23, g24, s24, g25, s25, g26, s26, g27, s27, g28, s28, g29, s29, g30, s30, g31, s31, g32, s32, g33, s33, g34, s34, g35, s35, g36, s36, g37, s37, g38, s38, g39, s39, n1, n2, h, d1, d2, P2.d]
theorem F1_ex {a b : Int} (h1 : 0 ≤ a) (h2 : 1 ≤ b) (h3 : a ≤ 900) (h4 : b ≤ 900) : ∃ p : P2, F1 [.int a, .int b] = .ok p.d := by
  obtain ⟨g, g1, g2, e⟩ := F0_ex h1 h2 h3 h4
  exact ⟨_, F1_of h1 h2 g1 g2 e⟩
open Classical in
noncomputable def fr (a b : Int) : P2 := if h : ∃ p : P2, F1 [.int a, .int b] = .ok p.d then h.choose else (0, 0)
theorem fr_ok {a b : Int} (h1 : 0 ≤ a) (h2 : 1 ≤ b) (h3 : a ≤ 900) (h4 : b ≤ 900) : F1 [.int a, .int b] = .ok (fr a b).d := by
  have e := F1_ex h1 h2 h3 h4
  unfold fr
  rw [dif_pos e]
  exact e.choose_spec
theorem t2 {v a b q : Int} (h1 : 0 ≤ v) (h2 : v ≤ 200) (h3 : 1 ≤ a) (h4 : 1 ≤ b) (h5 : b ≤ 200) (h : v * a = q * b) : F2 [one v, .tup [.int a, .int b]] = .ok (one q) := by
  have m1 := mul_i (i := v) (j := a) (by omega) (by omega)
  have m2 := mul_i (i := 1) (j := b) (by omega) (by omega)
  have n0 : 0 ≤ v * a := Int.mul_nonneg h1 (by omega)
  have f0 : F0 [.int (v * a), .int (1 * b)] = .ok (.int b) := by
    rw [Int.one_mul, h]
    exact F0_div h4 (Int.mul_fmod_left q b)
  have f1 := F1_of n0 (by omega) h4 (by omega) f0
  rw [h, Int.mul_fdiv_cancel _ (show b ≠ 0 by omega), Int.mul_fdiv_cancel _ (show b ≠ 0 by omega)] at f1
  rw [h] at m1
  simp only [F2, nn2, runK, sSqK, sIfK, sIfP, tOrK, tAndK, tNotK, tValK, liE, liT, liL, liI, liO, pNotT, pT, p1, p2, pK, pCons, pNil, pYes, pSeq, pAndE, pOrE, pNotE, pAndT, pOrT, pChain, pIf, pTup, pLst, pLc, pDic, pR1, pR2, sRetP, sRetK, sAsP, sAsK, sAoP, sAoK, sDrpK, sPar2K, sPar3K, sForP, sForK, sAppC, mAndK, mOrK, mNotK, mIfK, lConsK, mTupK, mLstK, mMK, m1K, m2K, mLcK, mCallP, mCallK, in_nil, in_cons, re_zero, re_succ, bk_ok, bk_dr, opK_some, opK_none, ooK_some, ooK_none, bK_t, bK_f, hd_cons, tl_cons, s0_cons, st_cons, fl_nx, fl_rt, fl_bk, fl_ct, rt_rt, rt_nx, dB_bl, dI_int, sq_tup, sq_lst, at_tup, al_nil, al_cons, nm_set, isi_tup_t, nh_int, nh_tup, nh_lst, nh_bl, nh_all_nil, nh_all_cons, ln_nil, ln_cons, lc_nil, lc_cons, lk_nil, lk_cons, fo_nil, fo_cons, all_l, any_l, allB_nil, anyB_nil, allB_cons, anyB_cons, ix_t0, ix_l0, ix_l1, ix_t1, ix_t2, ix_t3, pSl, pNo, pPart, pEnum, skip_nx, seq_k, fclk_eq, fck_eq, len_t, len_l, eq_i, ge_i, le_i, lt_i, gt_i, add_i, sub_i, int_i, chl, chle, id_eq, ble_ok, Nat.reduceAdd, List.length_cons, List.length_nil, decide_true, decide_false, Bool.not_true, Bool.not_false, Nat.zero_add, Nat.reduceLeDiff, Int.cast_ofNat_Int, g0, s0, g1, s1, g2, s2, g3, s3, g4, s4, g5, s5, g6, s6, g7, s7, g8, s8, g9, s9, g10, s10, g11, s11, g12, s12, g13, s13, g14, s14, g15, s15, g16, s16, g17, s17, g18, s18, g19, s19, g20, s20, g21, s21, g22, s22, g23, s23, g24, s24, g25, s25, g26, s26, g27, s27, g28, s28, g29, s29, g30, s30, g31, s31, g32, s32, g33, s33, g34, s34, g35, s35, g36, s36, g37, s37, g38, s38, g39, s39, one, m1, m2, f1]
  rfl
section
variable {W H : Int} {c : List R4} (C : Cut W H c)
include C
theorem t19 (h9 : W * H ≤ 900) : F19 [cD c] = .ok (.tup ((c.map fun r => fr (area r) (W * H)).map P2.d)) := by
  have W1 := C.W1
  have H1 := C.H1
  have W2 := C.W2
  have p1 : 1 ≤ W * H := by
    have := Int.mul_pos (show 0 < W by omega) (show 0 < H by omega)
    omega
  have mW := mul_i (i := W) (j := H) (by omega) (by omega)
  have e := lcK_mapg (A := aNm s3) (st := [some (cD c), some (.int W), some (.int H), none]) (c := liT pYes) (e := mCallP F1 (pCons (p2 oMulK (p2 oIxK g3 (pK (.int 2))) (p2 oIxK g3 (pK (.int 3)))) (pCons (p2 oMulK g1 g2) pNil))) (g := R4.d) (h := fun r => (fr (area r) (W * H)).d) c 0 (fun r hr => ⟨[some (cD c), some (.int W), some (.int H), some r.d], rfl, ⟨_, rfl⟩, ⟨_, by
    have b := C.inb r hr
    have b1 := b.w1
    have b2 := b.h1
    have b3 : area r ≤ W * H := by
      have := b.x0
      have := b.y0
      have := b.xw
      have := b.yh
      exact Int.mul_le_mul (by omega) (by omega) (by omega) (by omega)
    have b4 : 0 ≤ area r := Int.mul_nonneg (by omega) (by omega)
    have m := mul_i (i := r.w) (j := r.h) (by omega) (by have := (C.pt r hr).w2; omega)
    refine callP_ok (xs := [.int (area r), .int (W * H)]) ?_ (fr_ok b4 p1 (by omega) h9)
    simp only [R4.d, runK, sSqK, sIfK, sIfP, tOrK, tAndK, tNotK, tValK, liE, liT, liL, liI, liO, pNotT, pT, p1, p2, pK, pCons, pNil, pYes, pSeq, pAndE, pOrE, pNotE, pAndT, pOrT, pChain, pIf, pTup, pLst, pLc, pDic, pR1, pR2, sRetP, sRetK, sAsP, sAsK, sAoP, sAoK, sDrpK, sPar2K, sPar3K, sForP, sForK, sAppC, mAndK, mOrK, mNotK, mIfK, lConsK, mTupK, mLstK, mMK, m1K, m2K, mLcK, mCallP, mCallK, in_nil, in_cons, re_zero, re_succ, bk_ok, bk_dr, opK_some, opK_none, ooK_some, ooK_none, bK_t, bK_f, hd_cons, tl_cons, s0_cons, st_cons, fl_nx, fl_rt, fl_bk, fl_ct, rt_rt, rt_nx, dB_bl, dI_int, sq_tup, sq_lst, at_tup, al_nil, al_cons, nm_set, isi_tup_t, nh_int, nh_tup, nh_lst, nh_bl, nh_all_nil, nh_all_cons, ln_nil, ln_cons, lc_nil, lc_cons, lk_nil, lk_cons, fo_nil, fo_cons, all_l, any_l, allB_nil, anyB_nil, allB_cons, anyB_cons, ix_t0, ix_l0, ix_l1, ix_t1, ix_t2, ix_t3, pSl, pNo, pPart, pEnum, skip_nx, seq_k, fclk_eq, fck_eq, len_t, len_l, eq_i, ge_i, le_i, lt_i, gt_i, add_i, sub_i, int_i, chl, chle, id_eq, ble_ok, Nat.reduceAdd, List.length_cons, List.length_nil, decide_true, decide_false, Bool.not_true, Bool.not_false, Nat.zero_add, Nat.reduceLeDiff, Int.cast_ofNat_Int, g0, s0, g1, s1, g2, s2, g3, s3, g4, s4, g5, s5, g6, s6, g7, s7, g8, s8, g9, s9, g10, s10, g11, s11, g12, s12, g13, s13, g14, s14, g15, s15, g16, s16, g17, s17, g18, s18, g19, s19, g20, s20, g21, s21, g22, s22, g23, s23, g24, s24, g25, s25, g26, s26, g27, s27, g28, s28, g29, s29, g30, s30, g31, s31, g32, s32, g33, s33, g34, s34, g35, s35, g36, s36, g37, s37, g38, s38, g39, s39, m, mW]
    rfl⟩, rfl⟩) (lenb C)
  simp only [runK, sSqK, sIfK, sIfP, tOrK, tAndK, tNotK, tValK, liE, liT, liL, liI, liO, pNotT, pT, p1, p2, pK, pCons, pNil, pYes, pSeq, pAndE, pOrE, pNotE, pAndT, pOrT, pChain, pIf, pTup, pLst, pLc, pDic, pR1, pR2, sRetP, sRetK, sAsP, sAsK, sAoP, sAoK, sDrpK, sPar2K, sPar3K, sForP, sForK, sAppC, mAndK, mOrK, mNotK, mIfK, lConsK, mTupK, mLstK, mMK, m1K, m2K, mLcK, mCallP, mCallK, in_nil, in_cons, re_zero, re_succ, bk_ok, bk_dr, opK_some, opK_none, ooK_some, ooK_none, bK_t, bK_f, hd_cons, tl_cons, s0_cons, st_cons, fl_nx, fl_rt, fl_bk, fl_ct, rt_rt, rt_nx, dB_bl, dI_int, sq_tup, sq_lst, at_tup, al_nil, al_cons, nm_set, isi_tup_t, nh_int, nh_tup, nh_lst, nh_bl, nh_all_nil, nh_all_cons, ln_nil, ln_cons, lc_nil, lc_cons, lk_nil, lk_cons, fo_nil, fo_cons, all_l, any_l, allB_nil, anyB_nil, allB_cons, anyB_cons, ix_t0, ix_l0, ix_l1, ix_t1, ix_t2, ix_t3, pSl, pNo, pPart, pEnum, skip_nx, seq_k, fclk_eq, fck_eq, len_t, len_l, eq_i, ge_i, le_i, lt_i, gt_i, add_i, sub_i, int_i, chl, chle, id_eq, ble_ok, Nat.reduceAdd, List.length_cons, List.length_nil, decide_true, decide_false, Bool.not_true, Bool.not_false, Nat.zero_add, Nat.reduceLeDiff, Int.cast_ofNat_Int, g0, s0, g1, s1, g2, s2, g3, s3, g4, s4, g5, s5, g6, s6, g7, s7, g8, s8, g9, s9, g10, s10, g11, s11, g12, s12, g13, s13, g14, s14, g15, s15, g16, s16, g17, s17, g18, s18, g19, s19, g20, s20, g21, s21, g22, s22, g23, s23, g24, s24, g25, s25, g26, s26, g27, s27, g28, s28, g29, s29, g30, s30, g31, s31, g32, s32, g33, s33, g34, s34, g35, s35, g36, s36, g37, s37, g38, s38, g39, s39] at e
  simp only [F19, nn19, runK, sSqK, sIfK, sIfP, tOrK, tAndK, tNotK, tValK, liE, liT, liL, liI, liO, pNotT, pT, p1, p2, pK, pCons, pNil, pYes, pSeq, pAndE, pOrE, pNotE, pAndT, pOrT, pChain, pIf, pTup, pLst, pLc, pDic, pR1, pR2, sRetP, sRetK, sAsP, sAsK, sAoP, sAoK, sDrpK, sPar2K, sPar3K, sForP, sForK, sAppC, mAndK, mOrK, mNotK, mIfK, lConsK, mTupK, mLstK, mMK, m1K, m2K, mLcK, mCallP, mCallK, in_nil, in_cons, re_zero, re_succ, bk_ok, bk_dr, opK_some, opK_none, ooK_some, ooK_none, bK_t, bK_f, hd_cons, tl_cons, s0_cons, st_cons, fl_nx, fl_rt, fl_bk, fl_ct, rt_rt, rt_nx, dB_bl, dI_int, sq_tup, sq_lst, at_tup, al_nil, al_cons, nm_set, isi_tup_t, nh_int, nh_tup, nh_lst, nh_bl, nh_all_nil, nh_all_cons, ln_nil, ln_cons, lc_nil, lc_cons, lk_nil, lk_cons, fo_nil, fo_cons, all_l, any_l, allB_nil, anyB_nil, allB_cons, anyB_cons, ix_t0, ix_l0, ix_l1, ix_t1, ix_t2, ix_t3, pSl, pNo, pPart, pEnum, skip_nx, seq_k, fclk_eq, fck_eq, len_t, len_l, eq_i, ge_i, le_i, lt_i, gt_i, add_i, sub_i, int_i, chl, chle, id_eq, ble_ok, Nat.reduceAdd, List.length_cons, List.length_nil, decide_true, decide_false, Bool.not_true, Bool.not_false, Nat.zero_add, Nat.reduceLeDiff, Int.cast_ofNat_Int, g0, s0, g1, s1, g2, s2, g3, s3, g4, s4, g5, s5, g6, s6, g7, s7, g8, s8, g9, s9, g10, s10, g11, s11, g12, s12, g13, s13, g14, s14, g15, s15, g16, s16, g17, s17, g18, s18, g19, s19, g20, s20, g21, s21, g22, s22, g23, s23, g24, s24, g25, s25, g26, s26, g27, s27, g28, s28, g29, s29, g30, s30, g31, s31, g32, s32, g33, s33, g34, s34, g35, s35, g36, s36, g37, s37, g38, s38, g39, s39, t11 C, t8 C, e, oTuple]
  rw [map_map2]
end
theorem appKC_ok {g : GS} {s : SS} {m : ME} {st st' : AS} {x l0 : D} {xs : List D} (hg : g st = some l0) (hm : m st = .ok (x, st')) (hg' : g st' = some (.lst xs)) (hn : nHK x = true) (hl : xs.length ≤ 16000000) : sAppKC g s m st = .ok (.nx (s (some (.lst (xs ++ [x]))) st')) := by
  unfold sAppKC
  have l : lenK xs 0 = true := by
    rw [lenK_eq, Nat.zero_add]
    exact Nat.ble_eq_true_of_le hl
  rw [hg, opK_some, hm, bk_ok, hg', opK_some]
  show bK (nHK x) (bK (lenK xs 0) (apC xs [x] _) R.bad) R.bad = _
  rw [hn, bK_t, l, bK_t, apC_eq]
noncomputable abbrev b20 : MS := (sSqK (sAppKC g3 s3 (mTupK (lConsK (mCallP F2 (pCons (pTup (pCons g4 (pCons (pK (.int 1)) pNil))) (pCons g1 pNil))) (lConsK (mCallP F2 (pCons (pTup (pCons g5 (pCons (pK (.int 1)) pNil))) (pCons g2 pNil))) (lConsK (mCallP F2 (pCons (pTup (pCons g6 (pCons (pK (.int 1)) pNil))) (pCons g1 pNil))) (lConsK (mCallP F2 (pCons (pTup (pCons g7 (pCons (pK (.int 1)) pNil))) (pCons g2 pNil))) (liL pNil))))))) sSkip)
structure Mul (a a2 b b2 : Int) (r q : R4) : Prop where
  x : r.x * a = q.x * a2
  y : r.y * b = q.y * b2
  w : r.w * a = q.w * a2
  h : r.h * b = q.h * b2
theorem t20b {a a2 b b2 : Int} {m : R4 → R4} (cd : D) (ha : 1 ≤ a) (ha1 : 1 ≤ a2) (ha2 : a2 ≤ 200) (hb : 1 ≤ b) (hb1 : 1 ≤ b2) (hb2 : b2 ≤ 200) : ∀ (l : List R4) (acc : List D) (x y w h : Option D), acc.length + l.length ≤ 1000 → (∀ r ∈ l, Pt r ∧ Mul a a2 b b2 r (m r)) →
    ∃ x2 y2 w2 h2, forK (aTp (aCons (aNm s4) (aCons (aNm s5) (aCons (aNm s6) (aCons (aNm s7) aNil))))) b20 (l.map R4.d) [some cd, some (.tup [.int a, .int a2]), some (.tup [.int b, .int b2]), some (.lst acc), x, y, w, h] = .ok (.nx [some cd, some (.tup [.int a, .int a2]), some (.tup [.int b, .int b2]), some (.lst (acc ++ l.map fun r => (m r).o)), x2, y2, w2, h2])
  | [], acc, x, y, w, h, _, _ => ⟨x, y, w, h, by rw [List.map_nil, List.map_nil, List.append_nil]; rfl⟩
  | r :: l, acc, x, y, w, h, hn, hm => by
    rw [List.length_cons] at hn
    obtain ⟨p, q⟩ := hm r (by simp)
    have e1 := t2 p.x0 p.x2 ha ha1 ha2 q.x
    have e2 := t2 p.y0 p.y2 hb hb1 hb2 q.y
    have e3 := t2 (show 0 ≤ r.w by have := p.w1; omega) p.w2 ha ha1 ha2 q.w
    have e4 := t2 (show 0 ≤ r.h by have := p.h1; omega) p.h2 hb hb1 hb2 q.h
    obtain ⟨x2, y2, w2, h2, ih⟩ := t20b cd ha ha1 ha2 hb hb1 hb2 l (acc ++ [(m r).o]) (some (.int r.x)) (some (.int r.y)) (some (.int r.w)) (some (.int r.h)) (by rw [List.length_append]; show acc.length + 1 + l.length ≤ 1000; omega) fun r hr => hm r (by simp [hr])
    refine ⟨x2, y2, w2, h2, ?_⟩
    rw [List.map_cons, fo_cons]
    show opK (some _) _ = _
    rw [opK_some]
    have ap : sAppKC g3 s3 (mTupK (lConsK (mCallP F2 (pCons (pTup (pCons g4 (pCons (pK (.int 1)) pNil))) (pCons g1 pNil))) (lConsK (mCallP F2 (pCons (pTup (pCons g5 (pCons (pK (.int 1)) pNil))) (pCons g2 pNil))) (lConsK (mCallP F2 (pCons (pTup (pCons g6 (pCons (pK (.int 1)) pNil))) (pCons g1 pNil))) (lConsK (mCallP F2 (pCons (pTup (pCons g7 (pCons (pK (.int 1)) pNil))) (pCons g2 pNil))) (liL pNil)))))) [some cd, some (.tup [.int a, .int a2]), some (.tup [.int b, .int b2]), some (.lst acc), some (.int r.x), some (.int r.y), some (.int r.w), some (.int r.h)] = .ok (.nx [some cd, some (.tup [.int a, .int a2]), some (.tup [.int b, .int b2]), some (.lst (acc ++ [(m r).o])), some (.int r.x), some (.int r.y), some (.int r.w), some (.int r.h)]) := appKC_ok (st' := [some cd, some (.tup [.int a, .int a2]), some (.tup [.int b, .int b2]), some (.lst acc), some (.int r.x), some (.int r.y), some (.int r.w), some (.int r.h)]) (x := (m r).o) (xs := acc) rfl (by
      have c1 : ∀ (st : AS) (u v : D) (l : PL), l st = some [u, v] → ∀ z, F2 [u, v] = .ok z → mCallP F2 l st = .ok (z, st) := fun st u v l h1 z h2 => callP_ok h1 h2
      unfold mTupK lConsK
      rw [c1 _ (one r.x) (.tup [.int a, .int a2]) _ rfl _ e1, bk_ok, c1 _ (one r.y) (.tup [.int b, .int b2]) _ rfl _ e2, bk_ok, c1 _ (one r.w) (.tup [.int a, .int a2]) _ rfl _ e3, bk_ok, c1 _ (one r.h) (.tup [.int b, .int b2]) _ rfl _ e4, bk_ok]
      rfl) rfl rfl (by omega)
    have ab : b20 [some cd, some (.tup [.int a, .int a2]), some (.tup [.int b, .int b2]), some (.lst acc), some (.int r.x), some (.int r.y), some (.int r.w), some (.int r.h)] = .ok (.nx [some cd, some (.tup [.int a, .int a2]), some (.tup [.int b, .int b2]), some (.lst (acc ++ [(m r).o])), some (.int r.x), some (.int r.y), some (.int r.w), some (.int r.h)]) := sq_nx ap
    show bindK (b20 [some cd, some (.tup [.int a, .int a2]), some (.tup [.int b, .int b2]), some (.lst acc), some (.int r.x), some (.int r.y), some (.int r.w), some (.int r.h)]) _ = _
    rw [ab, bk_ok, fl_nx]
    rw [List.map_cons, show acc ++ (m r).o :: l.map (fun r => (m r).o) = acc ++ [(m r).o] ++ l.map fun r => (m r).o by rw [List.append_assoc]; rfl]
    exact ih
theorem t20 {W H : Int} {c : List R4} (C : Cut W H c) {a a2 b b2 : Int} {m : R4 → R4} (ha : 1 ≤ a) (ha1 : 1 ≤ a2) (ha2 : a2 ≤ 200) (hb : 1 ≤ b) (hb1 : 1 ≤ b2) (hb2 : b2 ≤ 200) (hm : ∀ r ∈ c, Mul a a2 b b2 r (m r)) : F20 [cD c, .tup [.int a, .int a2], .tup [.int b, .int b2]] = .ok (.tup ((c.map m).map R4.o)) := by
  obtain ⟨x, y, w, h, e⟩ := t20b (m := m) (cD c) ha ha1 ha2 hb hb1 hb2 c [] none none none none (by have := C.len1; show 0 + c.length ≤ 1000; omega) fun r hr => ⟨C.pt r hr, hm r hr⟩
  unfold b20 at e
  simp only [runK, sSqK, sIfK, sIfP, tOrK, tAndK, tNotK, tValK, liE, liT, liL, liI, liO, pNotT, pT, p1, p2, pK, pCons, pNil, pYes, pSeq, pAndE, pOrE, pNotE, pAndT, pOrT, pChain, pIf, pTup, pLst, pLc, pDic, pR1, pR2, sRetP, sRetK, sAsP, sAsK, sAoP, sAoK, sDrpK, sPar2K, sPar3K, sForP, sForK, sAppC, mAndK, mOrK, mNotK, mIfK, lConsK, mTupK, mLstK, mMK, m1K, m2K, mLcK, mCallP, mCallK, in_nil, in_cons, re_zero, re_succ, bk_ok, bk_dr, opK_some, opK_none, ooK_some, ooK_none, bK_t, bK_f, hd_cons, tl_cons, s0_cons, st_cons, fl_nx, fl_rt, fl_bk, fl_ct, rt_rt, rt_nx, dB_bl, dI_int, sq_tup, sq_lst, at_tup, al_nil, al_cons, nm_set, isi_tup_t, nh_int, nh_tup, nh_lst, nh_bl, nh_all_nil, nh_all_cons, ln_nil, ln_cons, lc_nil, lc_cons, lk_nil, lk_cons, fo_nil, fo_cons, all_l, any_l, allB_nil, anyB_nil, allB_cons, anyB_cons, ix_t0, ix_l0, ix_l1, ix_t1, ix_t2, ix_t3, pSl, pNo, pPart, pEnum, skip_nx, seq_k, fclk_eq, fck_eq, len_t, len_l, eq_i, ge_i, le_i, lt_i, gt_i, add_i, sub_i, int_i, chl, chle, id_eq, ble_ok, Nat.reduceAdd, List.length_cons, List.length_nil, decide_true, decide_false, Bool.not_true, Bool.not_false, Nat.zero_add, Nat.reduceLeDiff, Int.cast_ofNat_Int, g0, s0, g1, s1, g2, s2, g3, s3, g4, s4, g5, s5, g6, s6, g7, s7, g8, s8, g9, s9, g10, s10, g11, s11, g12, s12, g13, s13, g14, s14, g15, s15, g16, s16, g17, s17, g18, s18, g19, s19, g20, s20, g21, s21, g22, s22, g23, s23, g24, s24, g25, s25, g26, s26, g27, s27, g28, s28, g29, s29, g30, s30, g31, s31, g32, s32, g33, s33, g34, s34, g35, s35, g36, s36, g37, s37, g38, s38, g39, s39] at e
  simp only [F20, nn20, runK, sSqK, sIfK, sIfP, tOrK, tAndK, tNotK, tValK, liE, liT, liL, liI, liO, pNotT, pT, p1, p2, pK, pCons, pNil, pYes, pSeq, pAndE, pOrE, pNotE, pAndT, pOrT, pChain, pIf, pTup, pLst, pLc, pDic, pR1, pR2, sRetP, sRetK, sAsP, sAsK, sAoP, sAoK, sDrpK, sPar2K, sPar3K, sForP, sForK, sAppC, mAndK, mOrK, mNotK, mIfK, lConsK, mTupK, mLstK, mMK, m1K, m2K, mLcK, mCallP, mCallK, in_nil, in_cons, re_zero, re_succ, bk_ok, bk_dr, opK_some, opK_none, ooK_some, ooK_none, bK_t, bK_f, hd_cons, tl_cons, s0_cons, st_cons, fl_nx, fl_rt, fl_bk, fl_ct, rt_rt, rt_nx, dB_bl, dI_int, sq_tup, sq_lst, at_tup, al_nil, al_cons, nm_set, isi_tup_t, nh_int, nh_tup, nh_lst, nh_bl, nh_all_nil, nh_all_cons, ln_nil, ln_cons, lc_nil, lc_cons, lk_nil, lk_cons, fo_nil, fo_cons, all_l, any_l, allB_nil, anyB_nil, allB_cons, anyB_cons, ix_t0, ix_l0, ix_l1, ix_t1, ix_t2, ix_t3, pSl, pNo, pPart, pEnum, skip_nx, seq_k, fclk_eq, fck_eq, len_t, len_l, eq_i, ge_i, le_i, lt_i, gt_i, add_i, sub_i, int_i, chl, chle, id_eq, ble_ok, Nat.reduceAdd, List.length_cons, List.length_nil, decide_true, decide_false, Bool.not_true, Bool.not_false, Nat.zero_add, Nat.reduceLeDiff, Int.cast_ofNat_Int, g0, s0, g1, s1, g2, s2, g3, s3, g4, s4, g5, s5, g6, s6, g7, s7, g8, s8, g9, s9, g10, s10, g11, s11, g12, s12, g13, s13, g14, s14, g15, s15, g16, s16, g17, s17, g18, s18, g19, s19, g20, s20, g21, s21, g22, s22, g23, s23, g24, s24, g25, s25, g26, s26, g27, s27, g28, s28, g29, s29, g30, s30, g31, s31, g32, s32, g33, s33, g34, s34, g35, s35, g36, s36, g37, s37, g38, s38, g39, s39, t11 C, e, oTuple]
  rw [map_map2]
  rfl
/-! the frame's ratio: by going through all -/
noncomputable def ratB (w h : Nat) : Bool := match F3 [one (w + 1 : Nat), one (h + 1 : Nat)], F24 [.int (w + 1 : Nat), .int (h + 1 : Nat)] with
  | .ok (.tup [.int a, .int b]), .ok (.tup [.int c, .int d]) => decide (a = c) && decide (b = d)
  | _, _ => false
noncomputable def ratK (w h k : Nat) : Bool := match F3 [one (w + 1 : Nat), one (h + 1 : Nat)], F3 [one ((w + 1) * (k + 1) : Nat), one ((h + 1) * (k + 1) : Nat)] with
  | .ok (.tup [.int a, .int b]), .ok (.tup [.int c, .int d]) => decide (a = c) && decide (b = d)
  | _, _ => false
theorem ratB_all : (List.range 9).all (fun w => (List.range 9).all fun h => ratB w h) = true := by decide +kernel
theorem ratK_all : (List.range 9).all (fun w => (List.range 9).all fun h => (List.range 6).all fun k => ratK w h k) = true := by decide +kernel
end EV
set_option maxHeartbeats 0
namespace EV
open PySem PySem.Spec PyProof.Rows L2 RZ
theorem sumI_perm {a b : List Int} (h : a.Perm b) : sumI a = sumI b := by
  induction h with
  | nil => rfl
  | cons x _ ih => show x + sumI _ = x + sumI _; rw [ih]
  | swap x y l => show y + (x + sumI l) = x + (y + sumI l); omega
  | trans _ _ h1 h2 => rw [h1, h2]
theorem meet_comm (a b : R4) : meet a b = meet b a := by
  rw [meet_eq, meet_eq, Bool.and_comm (decide (a.x < b.x + b.w)), Bool.and_comm (decide (a.y < b.y + b.h))]
theorem meet_iff (a b : R4) : meet a b = true ↔ (a.x < b.x + b.w ∧ b.x < a.x + a.w) ∧ a.y < b.y + b.h ∧ b.y < a.y + a.h := by
  rw [meet_eq, Bool.and_eq_true, Bool.and_eq_true, Bool.and_eq_true, decide_eq_true_eq, decide_eq_true_eq, decide_eq_true_eq, decide_eq_true_eq]
theorem Cut.perm {W H : Int} {c c2 : List R4} (C : Cut W H c) (h : c.Perm c2) : Cut W H c2 where
  len0 := by rw [← h.length_eq]; exact C.len0
  len1 := by rw [← h.length_eq]; exact C.len1
  W2 := C.W2
  H2 := C.H2
  inb r hr := C.inb r (h.mem_iff.mpr hr)
  dj := (h.pairwise_iff (fun {x y} e => by rw [meet_comm]; exact e)).mp C.dj
  ar := by rw [← C.ar]; exact (sumI_perm (h.map area)).symm
  mx := by obtain ⟨r, hr, e⟩ := C.mx; exact ⟨r, h.mem_iff.mp hr, e⟩
  my := by obtain ⟨r, hr, e⟩ := C.my; exact ⟨r, h.mem_iff.mp hr, e⟩
  nx := by obtain ⟨r, hr, e⟩ := C.nx; exact ⟨r, h.mem_iff.mp hr, e⟩
  ny := by obtain ⟨r, hr, e⟩ := C.ny; exact ⟨r, h.mem_iff.mp hr, e⟩
/-- p and q make up r -/
structure Sp (r p q : R4) : Prop where
  ar : area p + area q = area r
  pq : meet q p = false
  mp : ∀ a, meet p a = true → meet r a = true
  mq : ∀ a, meet q a = true → meet r a = true
  ib : ∀ W H, InB W H r → InB W H p ∧ InB W H q
  mx : p.x + p.w = r.x + r.w ∨ q.x + q.w = r.x + r.w
  my : p.y + p.h = r.y + r.h ∨ q.y + q.h = r.y + r.h
  nx : p.x = r.x ∨ q.x = r.x
  ny : p.y = r.y ∨ q.y = r.y
theorem Cut.sp {W H : Int} {r p q : R4} {l : List R4} (C : Cut W H (r :: l)) (S : Sp r p q) (hl : l.length + 2 ≤ 24) : Cut W H (l ++ [p, q]) := by
  have D := List.pairwise_cons.mp C.dj
  refine Cut.perm (c := p :: q :: l) ?_ (List.perm_append_comm (l₁ := [p, q]) (l₂ := l))
  have np : ∀ a ∈ l, meet a p = false := fun a ha => by
    cases e : meet a p with
    | false => rfl
    | true =>
      rw [meet_comm] at e
      have := S.mp a e
      rw [meet_comm, D.1 a ha] at this
      cases this
  have nq : ∀ a ∈ l, meet a q = false := fun a ha => by
    cases e : meet a q with
    | false => rfl
    | true =>
      rw [meet_comm] at e
      have := S.mq a e
      rw [meet_comm, D.1 a ha] at this
      cases this
  have ex : ∀ {P : R4 → Prop}, (P r → P p ∨ P q) → (∃ a ∈ r :: l, P a) → ∃ a ∈ p :: q :: l, P a := by
    rintro P h ⟨a, ha, e⟩
    rcases List.mem_cons.mp ha with rfl | ha
    · rcases h e with e | e
      · exact ⟨p, by simp, e⟩
      · exact ⟨q, by simp, e⟩
    · exact ⟨a, by simp [ha], e⟩
  have ib := S.ib W H (C.inb r (by simp))
  exact {
    len0 := by simp
    len1 := by simp only [List.length_cons]; omega
    W2 := C.W2
    H2 := C.H2
    inb := fun a ha => by
      rcases List.mem_cons.mp ha with rfl | ha
      · exact ib.1
      · rcases List.mem_cons.mp ha with rfl | ha
        · exact ib.2
        · exact C.inb a (by simp [ha])
    dj := List.pairwise_cons.mpr ⟨fun a ha => by
      rcases List.mem_cons.mp ha with rfl | ha
      · exact S.pq
      · exact np a ha, List.pairwise_cons.mpr ⟨nq, D.2⟩⟩
    ar := by
      have := C.ar
      have e1 : sumI ((r :: l).map area) = area r + sumI (l.map area) := rfl
      have e2 : sumI ((p :: q :: l).map area) = area p + (area q + sumI (l.map area)) := rfl
      have := S.ar
      omega
    mx := ex (P := fun a => a.x + a.w = W) (fun e => S.mx.imp (fun h => h.trans e) (fun h => h.trans e)) C.mx
    my := ex (P := fun a => a.y + a.h = H) (fun e => S.my.imp (fun h => h.trans e) (fun h => h.trans e)) C.my
    nx := ex (P := fun a => a.x = 0) (fun e => S.nx.imp (fun h => h.trans e) (fun h => h.trans e)) C.nx
    ny := ex (P := fun a => a.y = 0) (fun e => S.ny.imp (fun h => h.trans e) (fun h => h.trans e)) C.ny }
theorem spX {x y w h b : Int} (h1 : 1 ≤ b) (h2 : b < w) : Sp ⟨x, y, w, h⟩ ⟨x, y, b, h⟩ ⟨x + b, y, w - b, h⟩ where
  ar := by
    show b * h + (w - b) * h = w * h
    rw [Int.sub_mul]
    omega
  pq := by
    cases e : meet ⟨x + b, y, w - b, h⟩ ⟨x, y, b, h⟩ with
    | false => rfl
    | true =>
      have := ((meet_iff _ _).mp e).1.1
      exact absurd this (Int.lt_irrefl _)
  mp a e := by
    have ⟨⟨e1, e2⟩, e3, e4⟩ := (meet_iff _ _).mp e
    exact (meet_iff _ _).mpr ⟨⟨e1, by have e2 : a.x < x + b := e2; show a.x < x + w; omega⟩, e3, e4⟩
  mq a e := by
    have ⟨⟨e1, e2⟩, e3, e4⟩ := (meet_iff _ _).mp e
    exact (meet_iff _ _).mpr ⟨⟨by have e1 : x + b < a.x + a.w := e1; show x < a.x + a.w; omega, by have e2 : a.x < x + b + (w - b) := e2; show a.x < x + w; omega⟩, e3, e4⟩
  ib W H i := by
    have ⟨a0, b0, c0, d0, e0, f0⟩ := i
    have e0 : x + w ≤ W := e0
    have a0 : 0 ≤ x := a0
    exact ⟨⟨a0, b0, h1, d0, by show x + b ≤ W; omega, f0⟩, ⟨by show 0 ≤ x + b; omega, b0, by show 1 ≤ w - b; omega, d0, by show x + b + (w - b) ≤ W; omega, f0⟩⟩
  mx := .inr (by show x + b + (w - b) = x + w; omega)
  my := .inl rfl
  nx := .inl rfl
  ny := .inl rfl
theorem Sp.tr {r p q : R4} (S : Sp (EV.tr r) (EV.tr p) (EV.tr q)) : Sp r p q where
  ar := by
    have := S.ar
    have e : ∀ a : R4, area (EV.tr a) = area a := fun a => Int.mul_comm _ _
    rw [e, e, e] at this
    exact this
  pq := by rw [← meet_tr]; exact S.pq
  mp a e := by rw [← meet_tr]; exact S.mp _ (by rw [meet_tr]; exact e)
  mq a e := by rw [← meet_tr]; exact S.mq _ (by rw [meet_tr]; exact e)
  ib W H i := by
    have ⟨a, b, c, d, e, f⟩ := i
    have ⟨⟨a1, b1, c1, d1, e1, f1⟩, ⟨a2, b2, c2, d2, e2, f2⟩⟩ := S.ib H W ⟨b, a, d, c, f, e⟩
    exact ⟨⟨b1, a1, d1, c1, f1, e1⟩, ⟨b2, a2, d2, c2, f2, e2⟩⟩
  mx := S.my
  my := S.mx
  nx := S.ny
  ny := S.nx
theorem spY {x y w h b : Int} (h1 : 1 ≤ b) (h2 : b < h) : Sp ⟨x, y, w, h⟩ ⟨x, y, w, b⟩ ⟨x, y + b, w, h - b⟩ := Sp.tr (spX (x := y) (y := x) (w := h) (h := w) h1 h2)
theorem er_perm {α : Type} : ∀ {l : List α} {i : Nat} {x : α}, l[i]? = some x → l.Perm (x :: l.eraseIdx i)
  | [], i, x, h => by cases i <;> cases h
  | a :: l, 0, x, h => by cases h; exact .refl _
  | a :: l, i + 1, x, h => by
    have := er_perm (l := l) (i := i) (x := x) h
    exact (this.cons a).trans (.swap x a _)
theorem Cut.unit {W H : Int} (h1 : 1 ≤ W) (h2 : 1 ≤ H) (h3 : W ≤ 200) (h4 : H ≤ 200) : Cut W H [⟨0, 0, W, H⟩] where
  len0 := by simp
  len1 := by simp
  W2 := h3
  H2 := h4
  inb r hr := by
    cases List.mem_singleton.mp hr
    exact ⟨Int.le_refl _, Int.le_refl _, h1, h2, by show 0 + W ≤ W; omega, by show 0 + H ≤ H; omega⟩
  dj := List.pairwise_singleton _ _
  ar := by show W * H + 0 = _; omega
  mx := ⟨_, List.mem_singleton_self _, by show 0 + W = W; omega⟩
  my := ⟨_, List.mem_singleton_self _, by show 0 + H = H; omega⟩
  nx := ⟨_, List.mem_singleton_self _, rfl⟩
  ny := ⟨_, List.mem_singleton_self _, rfl⟩
end EV
set_option maxHeartbeats 0
namespace EV
open PySem PySem.Spec PyProof.Rows L2 RZ
theorem dr22 {k : Int} (h : 0 < k) (h2 : k < 1073741824) : F22 [.hnd, .int k] = .dr k.toNat fun d => .ok (.int (d : Nat)) := by
  show (match decide (0 < k) && decide (k < 1073741824) with | true => R.dr k.toNat (fun d => R.ok (D.int (d : Nat))) | false => .bad) = _
  rw [decide_eq_true h, decide_eq_true h2]
  rfl
theorem dr_all {n : Nat} (h : 0 < n) (h2 : n < 1000) : (F22 [.hnd, .int n]).all fun r => ∃ i : Nat, r = .int i ∧ i < n := by
  rw [dr22 (by omega) (by omega)]
  intro d hd
  exact ⟨d, rfl, by omega⟩
theorem forK_alln {A : AT} {b : MS} {I : Nat → AS → Prop} {K : Nat} : ∀ (ds : List D) (k : Nat) (st : AS), (∀ d ∈ ds, ∀ k, k < K → ∀ st, I k st → ∃ st1, A d st = some st1 ∧ (b st1).all fun fl => ∃ st2, fl = .nx st2 ∧ I (k + 1) st2) → k + ds.length ≤ K → I k st → (forK A b ds st).all fun fl => ∃ st2, fl = .nx st2 ∧ I (k + ds.length) st2
  | [], k, st, _, _, h => ⟨st, rfl, h⟩
  | d :: r, k, st, h, hk, hi => by
    rw [List.length_cons] at hk
    obtain ⟨st1, h1, h2⟩ := h d (by simp) k (by omega) st hi
    rw [fo_cons, h1, opK_some]
    refine all_bk (R.all_mono (fun fl q => ?_) h2)
    obtain ⟨st2, rfl, i2⟩ := q
    rw [fl_nx, List.length_cons, show k + (r.length + 1) = k + 1 + r.length by omega]
    exact forK_alln r (k + 1) st2 (fun d hd => h d (by simp [hd])) (by omega) i2
/-- the parts now: c; found: f -/
def cutS (W H : Int) (c : List R4) (f a5 a7 a8 a9 a10 a11 a12 a13 : Option D) : AS := [some .hnd, some (.int W), some (.int H), some (.int 7), some (.lst (c.map R4.d)), a5, f, a7, a8, a9, a10, a11, a12, a13]
def CutI (W H : Int) (k : Nat) (st : AS) : Prop := ∃ c a5 a7 a8 a9 a10 a11 a12 a13, st = cutS W H c none a5 a7 a8 a9 a10 a11 a12 a13 ∧ Cut W H c ∧ c.length ≤ k + 1
noncomputable abbrev bs1 : MS := (sAsK (aNm s7) (mCallP F22 (pCons g0 (pCons (p1 oLenK g4) pNil))))
noncomputable abbrev bs2 : MS := (sAsP (aTp (aCons (aNm s9) (aCons (aNm s10) (aCons (aNm s11) (aCons (aNm s12) aNil))))) (p2 oIxK g4 g7))
noncomputable abbrev bs3 : MS := (sAsP (aNm s8) (p2 oAddK (pSl false g4 pNo (pPart g7)) (pSl false g4 (pPart (p2 oAddK g7 (pK (.int 1)))) pNo)))
noncomputable abbrev bs4 : MS := (sIfK (tAndK (tValK (m2K (oEqFK id) (mCallP F22 (pCons g0 (pCons (pK (.int 2)) pNil))) (liE (pK (.int 0))))) (liT (pT (p2 oGtK g11 (pK (.int 1)))))) (sSqK (sAsK (aNm s13) (m2K oAddK (liE (pK (.int 1))) (mCallP F22 (pCons g0 (pCons (p2 oSubK g11 (pK (.int 1))) pNil))))) (sSqK (sAoP s4 (p2 oCatL g8 (pLst (pCons (pTup (pCons g9 (pCons g10 (pCons g13 (pCons g12 pNil))))) (pCons (pTup (pCons (p2 oAddK g9 g13) (pCons g10 (pCons (p2 oSubK g11 g13) (pCons g12 pNil))))) pNil))))) sSkip)) (sSqK (sIfP (pT (p2 oGtK g12 (pK (.int 1)))) (sSqK (sAsK (aNm s13) (m2K oAddK (liE (pK (.int 1))) (mCallP F22 (pCons g0 (pCons (p2 oSubK g12 (pK (.int 1))) pNil))))) (sSqK (sAoP s4 (p2 oCatL g8 (pLst (pCons (pTup (pCons g9 (pCons g10 (pCons g11 (pCons g13 pNil))))) (pCons (pTup (pCons g9 (pCons (p2 oAddK g10 g13) (pCons g11 (pCons (p2 oSubK g12 g13) pNil))))) pNil))))) sSkip)) sSkip) sSkip))
theorem bs1_ok {W H : Int} {c : List R4} {a5 a7 a8 a9 a10 a11 a12 a13 : Option D} (h0 : 0 < c.length) (h1 : c.length < 1000) : (bs1 (cutS W H c none a5 a7 a8 a9 a10 a11 a12 a13)).all fun fl => ∃ st, fl = .nx st ∧ ∃ i : Nat, i < c.length ∧ st = cutS W H c none a5 (some (.int i)) a8 a9 a10 a11 a12 a13 := by
  refine asK_call (xs := [.hnd, .int c.length]) ?_ (dr_all h0 h1) fun r hr => ?_
  · simp only [cutS, runK, sSqK, sIfK, sIfP, tOrK, tAndK, tNotK, tValK, liE, liT, liL, liI, liO, pNotT, pT, p1, p2, pK, pCons, pNil, pYes, pSeq, pAndE, pOrE, pNotE, pAndT, pOrT, pChain, pIf, pTup, pLst, pLc, pDic, pR1, pR2, sRetP, sRetK, sAsP, sAsK, sAoP, sAoK, sDrpK, sPar2K, sPar3K, sForP, sForK, sAppC, mAndK, mOrK, mNotK, mIfK, lConsK, mTupK, mLstK, mMK, m1K, m2K, mLcK, mCallP, mCallK, in_nil, in_cons, re_zero, re_succ, bk_ok, bk_dr, opK_some, opK_none, ooK_some, ooK_none, bK_t, bK_f, hd_cons, tl_cons, s0_cons, st_cons, fl_nx, fl_rt, fl_bk, fl_ct, rt_rt, rt_nx, dB_bl, dI_int, sq_tup, sq_lst, at_tup, al_nil, al_cons, nm_set, isi_tup_t, nh_int, nh_tup, nh_lst, nh_bl, nh_all_nil, nh_all_cons, ln_nil, ln_cons, lc_nil, lc_cons, lk_nil, lk_cons, fo_nil, fo_cons, all_l, any_l, allB_nil, anyB_nil, allB_cons, anyB_cons, ix_t0, ix_l0, ix_l1, ix_t1, ix_t2, ix_t3, pSl, pNo, pPart, pEnum, skip_nx, seq_k, fclk_eq, fck_eq, len_t, len_l, eq_i, ge_i, le_i, lt_i, gt_i, add_i, sub_i, int_i, chl, chle, id_eq, ble_ok, Nat.reduceAdd, List.length_cons, List.length_nil, decide_true, decide_false, Bool.not_true, Bool.not_false, Nat.zero_add, Nat.reduceLeDiff, Int.cast_ofNat_Int, g0, s0, g1, s1, g2, s2, g3, s3, g4, s4, g5, s5, g6, s6, g7, s7, g8, s8, g9, s9, g10, s10, g11, s11, g12, s12, g13, s13, g14, s14, g15, s15, g16, s16, g17, s17, g18, s18, g19, s19, g20, s20, g21, s21, g22, s22, g23, s23, g24, s24, g25, s25, g26, s26, g27, s27, g28, s28, g29, s29, g30, s30, g31, s31, g32, s32, g33, s33, g34, s34, g35, s35, g36, s36, g37, s37, g38, s38, g39, s39, List.length_map]
  · obtain ⟨i, rfl, hi⟩ := hr
    exact ⟨_, rfl, _, rfl, i, hi, rfl⟩
theorem nth_map {c : List R4} {i : Nat} {r : R4} (h : c[i]? = some r) : nthK (c.map R4.d) i = some r.d := by
  rw [nthK_eq, List.getElem?_map, h]
  rfl
theorem ix_nat (xs : List D) (i : Nat) : oIxK (.lst xs) (.int (i : Nat)) = nthK xs i := rfl
theorem bs2_ok {W H : Int} {c : List R4} {a5 a8 a9 a10 a11 a12 a13 : Option D} {i : Nat} {r : R4} (h : c[i]? = some r) : bs2 (cutS W H c none a5 (some (.int i)) a8 a9 a10 a11 a12 a13) = .ok (.nx (cutS W H c none a5 (some (.int i)) a8 (some (.int r.x)) (some (.int r.y)) (some (.int r.w)) (some (.int r.h)) a13)) := by
  simp only [cutS, runK, sSqK, sIfK, sIfP, tOrK, tAndK, tNotK, tValK, liE, liT, liL, liI, liO, pNotT, pT, p1, p2, pK, pCons, pNil, pYes, pSeq, pAndE, pOrE, pNotE, pAndT, pOrT, pChain, pIf, pTup, pLst, pLc, pDic, pR1, pR2, sRetP, sRetK, sAsP, sAsK, sAoP, sAoK, sDrpK, sPar2K, sPar3K, sForP, sForK, sAppC, mAndK, mOrK, mNotK, mIfK, lConsK, mTupK, mLstK, mMK, m1K, m2K, mLcK, mCallP, mCallK, in_nil, in_cons, re_zero, re_succ, bk_ok, bk_dr, opK_some, opK_none, ooK_some, ooK_none, bK_t, bK_f, hd_cons, tl_cons, s0_cons, st_cons, fl_nx, fl_rt, fl_bk, fl_ct, rt_rt, rt_nx, dB_bl, dI_int, sq_tup, sq_lst, at_tup, al_nil, al_cons, nm_set, isi_tup_t, nh_int, nh_tup, nh_lst, nh_bl, nh_all_nil, nh_all_cons, ln_nil, ln_cons, lc_nil, lc_cons, lk_nil, lk_cons, fo_nil, fo_cons, all_l, any_l, allB_nil, anyB_nil, allB_cons, anyB_cons, ix_t0, ix_l0, ix_l1, ix_t1, ix_t2, ix_t3, pSl, pNo, pPart, pEnum, skip_nx, seq_k, fclk_eq, fck_eq, len_t, len_l, eq_i, ge_i, le_i, lt_i, gt_i, add_i, sub_i, int_i, chl, chle, id_eq, ble_ok, Nat.reduceAdd, List.length_cons, List.length_nil, decide_true, decide_false, Bool.not_true, Bool.not_false, Nat.zero_add, Nat.reduceLeDiff, Int.cast_ofNat_Int, g0, s0, g1, s1, g2, s2, g3, s3, g4, s4, g5, s5, g6, s6, g7, s7, g8, s8, g9, s9, g10, s10, g11, s11, g12, s12, g13, s13, g14, s14, g15, s15, g16, s16, g17, s17, g18, s18, g19, s19, g20, s20, g21, s21, g22, s22, g23, s23, g24, s24, g25, s25, g26, s26, g27, s27, g28, s28, g29, s29, g30, s30, g31, s31, g32, s32, g33, s33, g34, s34, g35, s35, g36, s36, g37, s37, g38, s38, g39, s39, ix_nat, nth_map h, R4.d]
theorem map_erase {c : List R4} {i : Nat} : (c.map R4.d).take i ++ (c.map R4.d).drop (i + 1) = (c.eraseIdx i).map R4.d := by
  rw [List.eraseIdx_eq_take_drop_succ, List.map_append, List.map_take, List.map_drop]
theorem bs3_ok {W H : Int} {c : List R4} {a5 a8 a9 a10 a11 a12 a13 : Option D} {i : Nat} (h : c.length ≤ 1000) : bs3 (cutS W H c none a5 (some (.int i)) a8 a9 a10 a11 a12 a13) = .ok (.nx (cutS W H c none a5 (some (.int i)) (some (.lst ((c.eraseIdx i).map R4.d))) a9 a10 a11 a12 a13)) := by
  have e1 : slD false (.lst (c.map R4.d)) none (some (i : Int)) = some (.lst ((c.map R4.d).take i)) := by
    show some (D.lst (cutD _ none (some (i : Int)))) = _
    rw [cut_take]
  have e2 : slD false (.lst (c.map R4.d)) (some ((i : Int) + 1)) none = some (.lst ((c.map R4.d).drop (i + 1))) := by
    show some (D.lst (cutD _ (some ((i : Int) + 1)) none)) = _
    rw [show (i : Int) + 1 = ((i + 1 : Nat) : Int) by omega, cut_drop]
  have e3 : oAddK (.lst ((c.map R4.d).take i)) (.lst ((c.map R4.d).drop (i + 1))) = some (.lst ((c.eraseIdx i).map R4.d)) := by
    rw [oAddK_eq]
    show (match lenOk (((c.map R4.d).take i).length + ((c.map R4.d).drop (i + 1)).length) with | true => some (D.lst ((c.map R4.d).take i ++ (c.map R4.d).drop (i + 1))) | false => none) = _
    rw [map_erase]
    have : lenOk (((c.map R4.d).take i).length + ((c.map R4.d).drop (i + 1)).length) = true := Nat.ble_eq_true_of_le (by rw [List.length_take, List.length_drop, List.length_map]; omega)
    rw [this]
  simp only [cutS, runK, sSqK, sIfK, sIfP, tOrK, tAndK, tNotK, tValK, liE, liT, liL, liI, liO, pNotT, pT, p1, p2, pK, pCons, pNil, pYes, pSeq, pAndE, pOrE, pNotE, pAndT, pOrT, pChain, pIf, pTup, pLst, pLc, pDic, pR1, pR2, sRetP, sRetK, sAsP, sAsK, sAoP, sAoK, sDrpK, sPar2K, sPar3K, sForP, sForK, sAppC, mAndK, mOrK, mNotK, mIfK, lConsK, mTupK, mLstK, mMK, m1K, m2K, mLcK, mCallP, mCallK, in_nil, in_cons, re_zero, re_succ, bk_ok, bk_dr, opK_some, opK_none, ooK_some, ooK_none, bK_t, bK_f, hd_cons, tl_cons, s0_cons, st_cons, fl_nx, fl_rt, fl_bk, fl_ct, rt_rt, rt_nx, dB_bl, dI_int, sq_tup, sq_lst, at_tup, al_nil, al_cons, nm_set, isi_tup_t, nh_int, nh_tup, nh_lst, nh_bl, nh_all_nil, nh_all_cons, ln_nil, ln_cons, lc_nil, lc_cons, lk_nil, lk_cons, fo_nil, fo_cons, all_l, any_l, allB_nil, anyB_nil, allB_cons, anyB_cons, ix_t0, ix_l0, ix_l1, ix_t1, ix_t2, ix_t3, pSl, pNo, pPart, pEnum, skip_nx, seq_k, fclk_eq, fck_eq, len_t, len_l, eq_i, ge_i, le_i, lt_i, gt_i, add_i, sub_i, int_i, chl, chle, id_eq, ble_ok, Nat.reduceAdd, List.length_cons, List.length_nil, decide_true, decide_false, Bool.not_true, Bool.not_false, Nat.zero_add, Nat.reduceLeDiff, Int.cast_ofNat_Int, g0, s0, g1, s1, g2, s2, g3, s3, g4, s4, g5, s5, g6, s6, g7, s7, g8, s8, g9, s9, g10, s10, g11, s11, g12, s12, g13, s13, g14, s14, g15, s15, g16, s16, g17, s17, g18, s18, g19, s19, g20, s20, g21, s21, g22, s22, g23, s23, g24, s24, g25, s25, g26, s26, g27, s27, g28, s28, g29, s29, g30, s30, g31, s31, g32, s32, g33, s33, g34, s34, g35, s35, g36, s36, g37, s37, g38, s38, g39, s39, e1, e2, e3]
theorem cat_ok {l : List R4} {p q : R4} (h : l.length ≤ 1000) : oCatL (.lst (l.map R4.d)) (.lst [p.d, q.d]) = some (.lst ((l ++ [p, q]).map R4.d)) := by
  show (match lenOk ((l.map R4.d).length + 2) with | true => some (D.lst (l.map R4.d ++ [p.d, q.d])) | false => none) = _
  have : lenOk ((l.map R4.d).length + 2) = true := Nat.ble_eq_true_of_le (by rw [List.length_map]; omega)
  rw [this, List.map_append]
  rfl
theorem bs4_ok {W H : Int} {c l : List R4} {a5 a7 a13 : Option D} {r : R4} (hl : l.length ≤ 1000) (hw : r.w < 1000) (hh : r.h < 1000) : (bs4 (cutS W H c none a5 a7 (some (.lst (l.map R4.d))) (some (.int r.x)) (some (.int r.y)) (some (.int r.w)) (some (.int r.h)) a13)).all fun fl => ∃ st, fl = .nx st ∧ ∃ c2 b, st = cutS W H c2 none a5 a7 (some (.lst (l.map R4.d))) (some (.int r.x)) (some (.int r.y)) (some (.int r.w)) (some (.int r.h)) b ∧ (c2 = c ∨ ∃ p q, Sp r p q ∧ c2 = l ++ [p, q]) := by
  have d2 := dr22 (k := 2) (by decide) (by decide)
  have c1 : ∀ b : Int, oCatL (.lst (l.map R4.d)) (.lst [.tup [.int r.x, .int r.y, .int b, .int r.h], .tup [.int (r.x + b), .int r.y, .int (r.w - b), .int r.h]]) = some (.lst ((l ++ [(⟨r.x, r.y, b, r.h⟩ : R4), (⟨r.x + b, r.y, r.w - b, r.h⟩ : R4)]).map R4.d)) := fun b => cat_ok (p := ⟨r.x, r.y, b, r.h⟩) (q := ⟨r.x + b, r.y, r.w - b, r.h⟩) hl
  have c2 : ∀ b : Int, oCatL (.lst (l.map R4.d)) (.lst [.tup [.int r.x, .int r.y, .int r.w, .int b], .tup [.int r.x, .int (r.y + b), .int r.w, .int (r.h - b)]]) = some (.lst ((l ++ [(⟨r.x, r.y, r.w, b⟩ : R4), (⟨r.x, r.y + b, r.w, r.h - b⟩ : R4)]).map R4.d)) := fun b => cat_ok (p := ⟨r.x, r.y, r.w, b⟩) (q := ⟨r.x, r.y + b, r.w, r.h - b⟩) hl
  have good1 : ∀ d : Nat, d < (r.w - 1).toNat → ∃ p q, Sp r p q ∧ l ++ [(⟨r.x, r.y, 1 + (d : Int), r.h⟩ : R4), (⟨r.x + (1 + (d : Int)), r.y, r.w - (1 + (d : Int)), r.h⟩ : R4)] = l ++ [p, q] := fun d hd => ⟨_, _, spX (x := r.x) (y := r.y) (w := r.w) (h := r.h) (b := 1 + (d : Int)) (by omega) (by omega), rfl⟩
  have good2 : ∀ d : Nat, d < (r.h - 1).toNat → ∃ p q, Sp r p q ∧ l ++ [(⟨r.x, r.y, r.w, 1 + (d : Int)⟩ : R4), (⟨r.x, r.y + (1 + (d : Int)), r.w, r.h - (1 + (d : Int))⟩ : R4)] = l ++ [p, q] := fun d hd => ⟨_, _, spY (x := r.x) (y := r.y) (w := r.w) (h := r.h) (b := 1 + (d : Int)) (by omega) (by omega), rfl⟩
  have fin : ∀ {b : Option D} {c2 : List R4}, (c2 = c ∨ ∃ p q, Sp r p q ∧ c2 = l ++ [p, q]) → ∃ st, Fl.nx (cutS W H c2 none a5 a7 (some (.lst (l.map R4.d))) (some (.int r.x)) (some (.int r.y)) (some (.int r.w)) (some (.int r.h)) b) = .nx st ∧ ∃ c2 b, st = cutS W H c2 none a5 a7 (some (.lst (l.map R4.d))) (some (.int r.x)) (some (.int r.y)) (some (.int r.w)) (some (.int r.h)) b ∧ (c2 = c ∨ ∃ p q, Sp r p q ∧ c2 = l ++ [p, q]) := fun {b c2} h => ⟨_, rfl, c2, b, rfl, h⟩
  have i0 : bs4 (cutS W H c none a5 a7 (some (.lst (l.map R4.d))) (some (.int r.x)) (some (.int r.y)) (some (.int r.w)) (some (.int r.h)) a13) = bs4 [some .hnd, some (.int W), some (.int H), some (.int 7), some (.lst (c.map R4.d)), a5, none, a7, some (.lst (l.map R4.d)), some (.int r.x), some (.int r.y), some (.int r.w), some (.int r.h), a13] := rfl
  rw [i0]
  unfold bs4
  by_cases w1 : 1 < r.w
  · have dw := dr22 (k := r.w - 1) (by omega) (by omega)
    have w2 : decide (1 < r.w) = true := decide_eq_true w1
    by_cases h1 : 1 < r.h
    · have dh := dr22 (k := r.h - 1) (by omega) (by omega)
      have h2 : decide (1 < r.h) = true := decide_eq_true h1
      simp only [runK, sSqK, sIfK, sIfP, tOrK, tAndK, tNotK, tValK, liE, liT, liL, liI, liO, pNotT, pT, p1, p2, pK, pCons, pNil, pYes, pSeq, pAndE, pOrE, pNotE, pAndT, pOrT, pChain, pIf, pTup, pLst, pLc, pDic, pR1, pR2, sRetP, sRetK, sAsP, sAsK, sAoP, sAoK, sDrpK, sPar2K, sPar3K, sForP, sForK, sAppC, mAndK, mOrK, mNotK, mIfK, lConsK, mTupK, mLstK, mMK, m1K, m2K, mLcK, mCallP, mCallK, in_nil, in_cons, re_zero, re_succ, bk_ok, bk_dr, opK_some, opK_none, ooK_some, ooK_none, bK_t, bK_f, hd_cons, tl_cons, s0_cons, st_cons, fl_nx, fl_rt, fl_bk, fl_ct, rt_rt, rt_nx, dB_bl, dI_int, sq_tup, sq_lst, at_tup, al_nil, al_cons, nm_set, isi_tup_t, nh_int, nh_tup, nh_lst, nh_bl, nh_all_nil, nh_all_cons, ln_nil, ln_cons, lc_nil, lc_cons, lk_nil, lk_cons, fo_nil, fo_cons, all_l, any_l, allB_nil, anyB_nil, allB_cons, anyB_cons, ix_t0, ix_l0, ix_l1, ix_t1, ix_t2, ix_t3, pSl, pNo, pPart, pEnum, skip_nx, seq_k, fclk_eq, fck_eq, len_t, len_l, eq_i, ge_i, le_i, lt_i, gt_i, add_i, sub_i, int_i, chl, chle, id_eq, ble_ok, Nat.reduceAdd, List.length_cons, List.length_nil, decide_true, decide_false, Bool.not_true, Bool.not_false, Nat.zero_add, Nat.reduceLeDiff, Int.cast_ofNat_Int, g0, s0, g1, s1, g2, s2, g3, s3, g4, s4, g5, s5, g6, s6, g7, s7, g8, s8, g9, s9, g10, s10, g11, s11, g12, s12, g13, s13, g14, s14, g15, s15, g16, s16, g17, s17, g18, s18, g19, s19, g20, s20, g21, s21, g22, s22, g23, s23, g24, s24, g25, s25, g26, s26, g27, s27, g28, s28, g29, s29, g30, s30, g31, s31, g32, s32, g33, s33, g34, s34, g35, s35, g36, s36, g37, s37, g38, s38, g39, s39, d2]
      intro d hd
      cases e : decide ((d : Int) = 0) with
      | true =>
        simp only [runK, sSqK, sIfK, sIfP, tOrK, tAndK, tNotK, tValK, liE, liT, liL, liI, liO, pNotT, pT, p1, p2, pK, pCons, pNil, pYes, pSeq, pAndE, pOrE, pNotE, pAndT, pOrT, pChain, pIf, pTup, pLst, pLc, pDic, pR1, pR2, sRetP, sRetK, sAsP, sAsK, sAoP, sAoK, sDrpK, sPar2K, sPar3K, sForP, sForK, sAppC, mAndK, mOrK, mNotK, mIfK, lConsK, mTupK, mLstK, mMK, m1K, m2K, mLcK, mCallP, mCallK, in_nil, in_cons, re_zero, re_succ, bk_ok, bk_dr, opK_some, opK_none, ooK_some, ooK_none, bK_t, bK_f, hd_cons, tl_cons, s0_cons, st_cons, fl_nx, fl_rt, fl_bk, fl_ct, rt_rt, rt_nx, dB_bl, dI_int, sq_tup, sq_lst, at_tup, al_nil, al_cons, nm_set, isi_tup_t, nh_int, nh_tup, nh_lst, nh_bl, nh_all_nil, nh_all_cons, ln_nil, ln_cons, lc_nil, lc_cons, lk_nil, lk_cons, fo_nil, fo_cons, all_l, any_l, allB_nil, anyB_nil, allB_cons, anyB_cons, ix_t0, ix_l0, ix_l1, ix_t1, ix_t2, ix_t3, pSl, pNo, pPart, pEnum, skip_nx, seq_k, fclk_eq, fck_eq, len_t, len_l, eq_i, ge_i, le_i, lt_i, gt_i, add_i, sub_i, int_i, chl, chle, id_eq, ble_ok, Nat.reduceAdd, List.length_cons, List.length_nil, decide_true, decide_false, Bool.not_true, Bool.not_false, Nat.zero_add, Nat.reduceLeDiff, Int.cast_ofNat_Int, g0, s0, g1, s1, g2, s2, g3, s3, g4, s4, g5, s5, g6, s6, g7, s7, g8, s8, g9, s9, g10, s10, g11, s11, g12, s12, g13, s13, g14, s14, g15, s15, g16, s16, g17, s17, g18, s18, g19, s19, g20, s20, g21, s21, g22, s22, g23, s23, g24, s24, g25, s25, g26, s26, g27, s27, g28, s28, g29, s29, g30, s30, g31, s31, g32, s32, g33, s33, g34, s34, g35, s35, g36, s36, g37, s37, g38, s38, g39, s39, e, w2, dw, c1]
        intro d hd
        exact fin (.inr (good1 d hd))
      | false =>
        simp only [runK, sSqK, sIfK, sIfP, tOrK, tAndK, tNotK, tValK, liE, liT, liL, liI, liO, pNotT, pT, p1, p2, pK, pCons, pNil, pYes, pSeq, pAndE, pOrE, pNotE, pAndT, pOrT, pChain, pIf, pTup, pLst, pLc, pDic, pR1, pR2, sRetP, sRetK, sAsP, sAsK, sAoP, sAoK, sDrpK, sPar2K, sPar3K, sForP, sForK, sAppC, mAndK, mOrK, mNotK, mIfK, lConsK, mTupK, mLstK, mMK, m1K, m2K, mLcK, mCallP, mCallK, in_nil, in_cons, re_zero, re_succ, bk_ok, bk_dr, opK_some, opK_none, ooK_some, ooK_none, bK_t, bK_f, hd_cons, tl_cons, s0_cons, st_cons, fl_nx, fl_rt, fl_bk, fl_ct, rt_rt, rt_nx, dB_bl, dI_int, sq_tup, sq_lst, at_tup, al_nil, al_cons, nm_set, isi_tup_t, nh_int, nh_tup, nh_lst, nh_bl, nh_all_nil, nh_all_cons, ln_nil, ln_cons, lc_nil, lc_cons, lk_nil, lk_cons, fo_nil, fo_cons, all_l, any_l, allB_nil, anyB_nil, allB_cons, anyB_cons, ix_t0, ix_l0, ix_l1, ix_t1, ix_t2, ix_t3, pSl, pNo, pPart, pEnum, skip_nx, seq_k, fclk_eq, fck_eq, len_t, len_l, eq_i, ge_i, le_i, lt_i, gt_i, add_i, sub_i, int_i, chl, chle, id_eq, ble_ok, Nat.reduceAdd, List.length_cons, List.length_nil, decide_true, decide_false, Bool.not_true, Bool.not_false, Nat.zero_add, Nat.reduceLeDiff, Int.cast_ofNat_Int, g0, s0, g1, s1, g2, s2, g3, s3, g4, s4, g5, s5, g6, s6, g7, s7, g8, s8, g9, s9, g10, s10, g11, s11, g12, s12, g13, s13, g14, s14, g15, s15, g16, s16, g17, s17, g18, s18, g19, s19, g20, s20, g21, s21, g22, s22, g23, s23, g24, s24, g25, s25, g26, s26, g27, s27, g28, s28, g29, s29, g30, s30, g31, s31, g32, s32, g33, s33, g34, s34, g35, s35, g36, s36, g37, s37, g38, s38, g39, s39, e, h2, dh, c2]
        intro d hd
        exact fin (.inr (good2 d hd))
    · have h2 : decide (1 < r.h) = false := decide_eq_false h1
      simp only [runK, sSqK, sIfK, sIfP, tOrK, tAndK, tNotK, tValK, liE, liT, liL, liI, liO, pNotT, pT, p1, p2, pK, pCons, pNil, pYes, pSeq, pAndE, pOrE, pNotE, pAndT, pOrT, pChain, pIf, pTup, pLst, pLc, pDic, pR1, pR2, sRetP, sRetK, sAsP, sAsK, sAoP, sAoK, sDrpK, sPar2K, sPar3K, sForP, sForK, sAppC, mAndK, mOrK, mNotK, mIfK, lConsK, mTupK, mLstK, mMK, m1K, m2K, mLcK, mCallP, mCallK, in_nil, in_cons, re_zero, re_succ, bk_ok, bk_dr, opK_some, opK_none, ooK_some, ooK_none, bK_t, bK_f, hd_cons, tl_cons, s0_cons, st_cons, fl_nx, fl_rt, fl_bk, fl_ct, rt_rt, rt_nx, dB_bl, dI_int, sq_tup, sq_lst, at_tup, al_nil, al_cons, nm_set, isi_tup_t, nh_int, nh_tup, nh_lst, nh_bl, nh_all_nil, nh_all_cons, ln_nil, ln_cons, lc_nil, lc_cons, lk_nil, lk_cons, fo_nil, fo_cons, all_l, any_l, allB_nil, anyB_nil, allB_cons, anyB_cons, ix_t0, ix_l0, ix_l1, ix_t1, ix_t2, ix_t3, pSl, pNo, pPart, pEnum, skip_nx, seq_k, fclk_eq, fck_eq, len_t, len_l, eq_i, ge_i, le_i, lt_i, gt_i, add_i, sub_i, int_i, chl, chle, id_eq, ble_ok, Nat.reduceAdd, List.length_cons, List.length_nil, decide_true, decide_false, Bool.not_true, Bool.not_false, Nat.zero_add, Nat.reduceLeDiff, Int.cast_ofNat_Int, g0, s0, g1, s1, g2, s2, g3, s3, g4, s4, g5, s5, g6, s6, g7, s7, g8, s8, g9, s9, g10, s10, g11, s11, g12, s12, g13, s13, g14, s14, g15, s15, g16, s16, g17, s17, g18, s18, g19, s19, g20, s20, g21, s21, g22, s22, g23, s23, g24, s24, g25, s25, g26, s26, g27, s27, g28, s28, g29, s29, g30, s30, g31, s31, g32, s32, g33, s33, g34, s34, g35, s35, g36, s36, g37, s37, g38, s38, g39, s39, d2]
      intro d hd
      cases e : decide ((d : Int) = 0) with
      | true =>
        simp only [runK, sSqK, sIfK, sIfP, tOrK, tAndK, tNotK, tValK, liE, liT, liL, liI, liO, pNotT, pT, p1, p2, pK, pCons, pNil, pYes, pSeq, pAndE, pOrE, pNotE, pAndT, pOrT, pChain, pIf, pTup, pLst, pLc, pDic, pR1, pR2, sRetP, sRetK, sAsP, sAsK, sAoP, sAoK, sDrpK, sPar2K, sPar3K, sForP, sForK, sAppC, mAndK, mOrK, mNotK, mIfK, lConsK, mTupK, mLstK, mMK, m1K, m2K, mLcK, mCallP, mCallK, in_nil, in_cons, re_zero, re_succ, bk_ok, bk_dr, opK_some, opK_none, ooK_some, ooK_none, bK_t, bK_f, hd_cons, tl_cons, s0_cons, st_cons, fl_nx, fl_rt, fl_bk, fl_ct, rt_rt, rt_nx, dB_bl, dI_int, sq_tup, sq_lst, at_tup, al_nil, al_cons, nm_set, isi_tup_t, nh_int, nh_tup, nh_lst, nh_bl, nh_all_nil, nh_all_cons, ln_nil, ln_cons, lc_nil, lc_cons, lk_nil, lk_cons, fo_nil, fo_cons, all_l, any_l, allB_nil, anyB_nil, allB_cons, anyB_cons, ix_t0, ix_l0, ix_l1, ix_t1, ix_t2, ix_t3, pSl, pNo, pPart, pEnum, skip_nx, seq_k, fclk_eq, fck_eq, len_t, len_l, eq_i, ge_i, le_i, lt_i, gt_i, add_i, sub_i, int_i, chl, chle, id_eq, ble_ok, Nat.reduceAdd, List.length_cons, List.length_nil, decide_true, decide_false, Bool.not_true, Bool.not_false, Nat.zero_add, Nat.reduceLeDiff, Int.cast_ofNat_Int, g0, s0, g1, s1, g2, s2, g3, s3, g4, s4, g5, s5, g6, s6, g7, s7, g8, s8, g9, s9, g10, s10, g11, s11, g12, s12, g13, s13, g14, s14, g15, s15, g16, s16, g17, s17, g18, s18, g19, s19, g20, s20, g21, s21, g22, s22, g23, s23, g24, s24, g25, s25, g26, s26, g27, s27, g28, s28, g29, s29, g30, s30, g31, s31, g32, s32, g33, s33, g34, s34, g35, s35, g36, s36, g37, s37, g38, s38, g39, s39, e, w2, dw, c1]
        intro d hd
        exact fin (.inr (good1 d hd))
      | false =>
        simp only [runK, sSqK, sIfK, sIfP, tOrK, tAndK, tNotK, tValK, liE, liT, liL, liI, liO, pNotT, pT, p1, p2, pK, pCons, pNil, pYes, pSeq, pAndE, pOrE, pNotE, pAndT, pOrT, pChain, pIf, pTup, pLst, pLc, pDic, pR1, pR2, sRetP, sRetK, sAsP, sAsK, sAoP, sAoK, sDrpK, sPar2K, sPar3K, sForP, sForK, sAppC, mAndK, mOrK, mNotK, mIfK, lConsK, mTupK, mLstK, mMK, m1K, m2K, mLcK, mCallP, mCallK, in_nil, in_cons, re_zero, re_succ, bk_ok, bk_dr, opK_some, opK_none, ooK_some, ooK_none, bK_t, bK_f, hd_cons, tl_cons, s0_cons, st_cons, fl_nx, fl_rt, fl_bk, fl_ct, rt_rt, rt_nx, dB_bl, dI_int, sq_tup, sq_lst, at_tup, al_nil, al_cons, nm_set, isi_tup_t, nh_int, nh_tup, nh_lst, nh_bl, nh_all_nil, nh_all_cons, ln_nil, ln_cons, lc_nil, lc_cons, lk_nil, lk_cons, fo_nil, fo_cons, all_l, any_l, allB_nil, anyB_nil, allB_cons, anyB_cons, ix_t0, ix_l0, ix_l1, ix_t1, ix_t2, ix_t3, pSl, pNo, pPart, pEnum, skip_nx, seq_k, fclk_eq, fck_eq, len_t, len_l, eq_i, ge_i, le_i, lt_i, gt_i, add_i, sub_i, int_i, chl, chle, id_eq, ble_ok, Nat.reduceAdd, List.length_cons, List.length_nil, decide_true, decide_false, Bool.not_true, Bool.not_false, Nat.zero_add, Nat.reduceLeDiff, Int.cast_ofNat_Int, g0, s0, g1, s1, g2, s2, g3, s3, g4, s4, g5, s5, g6, s6, g7, s7, g8, s8, g9, s9, g10, s10, g11, s11, g12, s12, g13, s13, g14, s14, g15, s15, g16, s16, g17, s17, g18, s18, g19, s19, g20, s20, g21, s21, g22, s22, g23, s23, g24, s24, g25, s25, g26, s26, g27, s27, g28, s28, g29, s29, g30, s30, g31, s31, g32, s32, g33, s33, g34, s34, g35, s35, g36, s36, g37, s37, g38, s38, g39, s39, e, h2]
        exact fin (.inl rfl)
  · have w2 : decide (1 < r.w) = false := decide_eq_false w1
    by_cases h1 : 1 < r.h
    · have dh := dr22 (k := r.h - 1) (by omega) (by omega)
      have h2 : decide (1 < r.h) = true := decide_eq_true h1
      simp only [runK, sSqK, sIfK, sIfP, tOrK, tAndK, tNotK, tValK, liE, liT, liL, liI, liO, pNotT, pT, p1, p2, pK, pCons, pNil, pYes, pSeq, pAndE, pOrE, pNotE, pAndT, pOrT, pChain, pIf, pTup, pLst, pLc, pDic, pR1, pR2, sRetP, sRetK, sAsP, sAsK, sAoP, sAoK, sDrpK, sPar2K, sPar3K, sForP, sForK, sAppC, mAndK, mOrK, mNotK, mIfK, lConsK, mTupK, mLstK, mMK, m1K, m2K, mLcK, mCallP, mCallK, in_nil, in_cons, re_zero, re_succ, bk_ok, bk_dr, opK_some, opK_none, ooK_some, ooK_none, bK_t, bK_f, hd_cons, tl_cons, s0_cons, st_cons, fl_nx, fl_rt, fl_bk, fl_ct, rt_rt, rt_nx, dB_bl, dI_int, sq_tup, sq_lst, at_tup, al_nil, al_cons, nm_set, isi_tup_t, nh_int, nh_tup, nh_lst, nh_bl, nh_all_nil, nh_all_cons, ln_nil, ln_cons, lc_nil, lc_cons, lk_nil, lk_cons, fo_nil, fo_cons, all_l, any_l, allB_nil, anyB_nil, allB_cons, anyB_cons, ix_t0, ix_l0, ix_l1, ix_t1, ix_t2, ix_t3, pSl, pNo, pPart, pEnum, skip_nx, seq_k, fclk_eq, fck_eq, len_t, len_l, eq_i, ge_i, le_i, lt_i, gt_i, add_i, sub_i, int_i, chl, chle, id_eq, ble_ok, Nat.reduceAdd, List.length_cons, List.length_nil, decide_true, decide_false, Bool.not_true, Bool.not_false, Nat.zero_add, Nat.reduceLeDiff, Int.cast_ofNat_Int, g0, s0, g1, s1, g2, s2, g3, s3, g4, s4, g5, s5, g6, s6, g7, s7, g8, s8, g9, s9, g10, s10, g11, s11, g12, s12, g13, s13, g14, s14, g15, s15, g16, s16, g17, s17, g18, s18, g19, s19, g20, s20, g21, s21, g22, s22, g23, s23, g24, s24, g25, s25, g26, s26, g27, s27, g28, s28, g29, s29, g30, s30, g31, s31, g32, s32, g33, s33, g34, s34, g35, s35, g36, s36, g37, s37, g38, s38, g39, s39, d2]
      intro d hd
      cases e : decide ((d : Int) = 0) <;> simp only [runK, sSqK, sIfK, sIfP, tOrK, tAndK, tNotK, tValK, liE, liT, liL, liI, liO, pNotT, pT, p1, p2, pK, pCons, pNil, pYes, pSeq, pAndE, pOrE, pNotE, pAndT, pOrT, pChain, pIf, pTup, pLst, pLc, pDic, pR1, pR2, sRetP, sRetK, sAsP, sAsK, sAoP, sAoK, sDrpK, sPar2K, sPar3K, sForP, sForK, sAppC, mAndK, mOrK, mNotK, mIfK, lConsK, mTupK, mLstK, mMK, m1K, m2K, mLcK, mCallP, mCallK, in_nil, in_cons, re_zero, re_succ, bk_ok, bk_dr, opK_some, opK_none, ooK_some, ooK_none, bK_t, bK_f, hd_cons, tl_cons, s0_cons, st_cons, fl_nx, fl_rt, fl_bk, fl_ct, rt_rt, rt_nx, dB_bl, dI_int, sq_tup, sq_lst, at_tup, al_nil, al_cons, nm_set, isi_tup_t, nh_int, nh_tup, nh_lst, nh_bl, nh_all_nil, nh_all_cons, ln_nil, ln_cons, lc_nil, lc_cons, lk_nil, lk_cons, fo_nil, fo_cons, all_l, any_l, allB_nil, anyB_nil, allB_cons, anyB_cons, ix_t0, ix_l0, ix_l1, ix_t1, ix_t2, ix_t3, pSl, pNo, pPart, pEnum, skip_nx, seq_k, fclk_eq, fck_eq, len_t, len_l, eq_i, ge_i, le_i, lt_i, gt_i, add_i, sub_i, int_i, chl, chle, id_eq, ble_ok, Nat.reduceAdd, List.length_cons, List.length_nil, decide_true, decide_false, Bool.not_true, Bool.not_false, Nat.zero_add, Nat.reduceLeDiff, Int.cast_ofNat_Int, g0, s0, g1, s1, g2, s2, g3, s3, g4, s4, g5, s5, g6, s6, g7, s7, g8, s8, g9, s9, g10, s10, g11, s11, g12, s12, g13, s13, g14, s14, g15, s15, g16, s16, g17, s17, g18, s18, g19, s19, g20, s20, g21, s21, g22, s22, g23, s23, g24, s24, g25, s25, g26, s26, g27, s27, g28, s28, g29, s29, g30, s30, g31, s31, g32, s32, g33, s33, g34, s34, g35, s35, g36, s36, g37, s37, g38, s38, g39, s39, e, w2, h2, dh, c2] <;> exact fun d hd => fin (.inr (good2 d hd))
    · have h2 : decide (1 < r.h) = false := decide_eq_false h1
      simp only [runK, sSqK, sIfK, sIfP, tOrK, tAndK, tNotK, tValK, liE, liT, liL, liI, liO, pNotT, pT, p1, p2, pK, pCons, pNil, pYes, pSeq, pAndE, pOrE, pNotE, pAndT, pOrT, pChain, pIf, pTup, pLst, pLc, pDic, pR1, pR2, sRetP, sRetK, sAsP, sAsK, sAoP, sAoK, sDrpK, sPar2K, sPar3K, sForP, sForK, sAppC, mAndK, mOrK, mNotK, mIfK, lConsK, mTupK, mLstK, mMK, m1K, m2K, mLcK, mCallP, mCallK, in_nil, in_cons, re_zero, re_succ, bk_ok, bk_dr, opK_some, opK_none, ooK_some, ooK_none, bK_t, bK_f, hd_cons, tl_cons, s0_cons, st_cons, fl_nx, fl_rt, fl_bk, fl_ct, rt_rt, rt_nx, dB_bl, dI_int, sq_tup, sq_lst, at_tup, al_nil, al_cons, nm_set, isi_tup_t, nh_int, nh_tup, nh_lst, nh_bl, nh_all_nil, nh_all_cons, ln_nil, ln_cons, lc_nil, lc_cons, lk_nil, lk_cons, fo_nil, fo_cons, all_l, any_l, allB_nil, anyB_nil, allB_cons, anyB_cons, ix_t0, ix_l0, ix_l1, ix_t1, ix_t2, ix_t3, pSl, pNo, pPart, pEnum, skip_nx, seq_k, fclk_eq, fck_eq, len_t, len_l, eq_i, ge_i, le_i, lt_i, gt_i, add_i, sub_i, int_i, chl, chle, id_eq, ble_ok, Nat.reduceAdd, List.length_cons, List.length_nil, decide_true, decide_false, Bool.not_true, Bool.not_false, Nat.zero_add, Nat.reduceLeDiff, Int.cast_ofNat_Int, g0, s0, g1, s1, g2, s2, g3, s3, g4, s4, g5, s5, g6, s6, g7, s7, g8, s8, g9, s9, g10, s10, g11, s11, g12, s12, g13, s13, g14, s14, g15, s15, g16, s16, g17, s17, g18, s18, g19, s19, g20, s20, g21, s21, g22, s22, g23, s23, g24, s24, g25, s25, g26, s26, g27, s27, g28, s28, g29, s29, g30, s30, g31, s31, g32, s32, g33, s33, g34, s34, g35, s35, g36, s36, g37, s37, g38, s38, g39, s39, d2]
      intro d hd
      cases e : decide ((d : Int) = 0) <;> simp only [runK, sSqK, sIfK, sIfP, tOrK, tAndK, tNotK, tValK, liE, liT, liL, liI, liO, pNotT, pT, p1, p2, pK, pCons, pNil, pYes, pSeq, pAndE, pOrE, pNotE, pAndT, pOrT, pChain, pIf, pTup, pLst, pLc, pDic, pR1, pR2, sRetP, sRetK, sAsP, sAsK, sAoP, sAoK, sDrpK, sPar2K, sPar3K, sForP, sForK, sAppC, mAndK, mOrK, mNotK, mIfK, lConsK, mTupK, mLstK, mMK, m1K, m2K, mLcK, mCallP, mCallK, in_nil, in_cons, re_zero, re_succ, bk_ok, bk_dr, opK_some, opK_none, ooK_some, ooK_none, bK_t, bK_f, hd_cons, tl_cons, s0_cons, st_cons, fl_nx, fl_rt, fl_bk, fl_ct, rt_rt, rt_nx, dB_bl, dI_int, sq_tup, sq_lst, at_tup, al_nil, al_cons, nm_set, isi_tup_t, nh_int, nh_tup, nh_lst, nh_bl, nh_all_nil, nh_all_cons, ln_nil, ln_cons, lc_nil, lc_cons, lk_nil, lk_cons, fo_nil, fo_cons, all_l, any_l, allB_nil, anyB_nil, allB_cons, anyB_cons, ix_t0, ix_l0, ix_l1, ix_t1, ix_t2, ix_t3, pSl, pNo, pPart, pEnum, skip_nx, seq_k, fclk_eq, fck_eq, len_t, len_l, eq_i, ge_i, le_i, lt_i, gt_i, add_i, sub_i, int_i, chl, chle, id_eq, ble_ok, Nat.reduceAdd, List.length_cons, List.length_nil, decide_true, decide_false, Bool.not_true, Bool.not_false, Nat.zero_add, Nat.reduceLeDiff, Int.cast_ofNat_Int, g0, s0, g1, s1, g2, s2, g3, s3, g4, s4, g5, s5, g6, s6, g7, s7, g8, s8, g9, s9, g10, s10, g11, s11, g12, s12, g13, s13, g14, s14, g15, s15, g16, s16, g17, s17, g18, s18, g19, s19, g20, s20, g21, s21, g22, s22, g23, s23, g24, s24, g25, s25, g26, s26, g27, s27, g28, s28, g29, s29, g30, s30, g31, s31, g32, s32, g33, s33, g34, s34, g35, s35, g36, s36, g37, s37, g38, s38, g39, s39, e, w2, h2] <;> exact fin (.inl rfl)
end EV
set_option maxHeartbeats 0
namespace EV
open PySem PySem.Spec PyProof.Rows L2 RZ
noncomputable abbrev bs : MS := sSqK bs1 (sSqK bs2 (sSqK bs3 (sSqK bs4 sSkip)))
theorem bs_ok {W H : Int} (hW : W ≤ 200) (hH : H ≤ 200) (d : D) (k : Nat) (hk : k < 6) (st : AS) (h : CutI W H k st) : ∃ st1, aNm s5 d st = some st1 ∧ (bs st1).all fun fl => ∃ st2, fl = .nx st2 ∧ CutI W H (k + 1) st2 := by
  obtain ⟨c, a5, a7, a8, a9, a10, a11, a12, a13, rfl, C, hc⟩ := h
  have c0 := C.len0
  refine ⟨cutS W H c none (some d) a7 a8 a9 a10 a11 a12 a13, rfl, ?_⟩
  refine all_sq (R.all_mono ?_ (bs1_ok (by omega) (by omega)))
  rintro fl ⟨st, rfl, i, hi, rfl⟩
  refine ⟨_, rfl, ?_⟩
  have hr : c[i]? = some c[i] := List.getElem?_eq_getElem hi
  generalize c[i] = r at hr
  have hm : r ∈ c := List.mem_of_getElem? hr
  have b := C.inb r hm
  have b1 := b.x0
  have b2 := b.y0
  have b3 := b.xw
  have b4 := b.yh
  rw [sq_nx (bs2_ok hr), sq_nx (bs3_ok (by omega))]
  have pm := er_perm hr
  have le : (c.eraseIdx i).length + 1 = c.length := pm.length_eq.symm
  refine all_sq (R.all_mono ?_ (bs4_ok (r := r) (by omega) (by omega) (by omega)))
  rintro fl ⟨st, rfl, c2, b, rfl, e⟩
  refine ⟨_, rfl, _, rfl, c2, some d, _, _, _, _, _, _, _, rfl, ?_⟩
  rcases e with rfl | ⟨p, q, S, rfl⟩
  · exact ⟨C, by omega⟩
  · refine ⟨(C.perm pm).sp S (by omega), ?_⟩
    rw [List.length_append]
    show (c.eraseIdx i).length + 2 ≤ _
    omega
/-! the parts are taken one by one -/
noncomputable abbrev tw : MT := (liT (pT (p2 oGtK (p1 oLenK g4) (pK (.int 0)))))
noncomputable abbrev bw : MS := (sSqK (sAppKC g6 s6 (mPopAtK g4 s4 (mCallP F22 (pCons g0 (pCons (p1 oLenK g4) pNil))))) sSkip)
theorem er_map {c : List R4} {i : Nat} : (c.map R4.d).eraseIdx i = (c.eraseIdx i).map R4.d := by
  rw [List.eraseIdx_eq_take_drop_succ, map_erase]
theorem pop_all {W H : Int} {p : List R4} {f a5 a7 a8 a9 a10 a11 a12 a13 : Option D} (h0 : 0 < p.length) (h1 : p.length < 1000) : (mPopAtK g4 s4 (mCallP F22 (pCons g0 (pCons (p1 oLenK g4) pNil))) (cutS W H p f a5 a7 a8 a9 a10 a11 a12 a13)).all fun x => ∃ (i : Nat) (r : R4), p[i]? = some r ∧ x = (r.d, cutS W H (p.eraseIdx i) f a5 a7 a8 a9 a10 a11 a12 a13) := by
  have e1 : g4 (cutS W H p f a5 a7 a8 a9 a10 a11 a12 a13) = some (.lst (p.map R4.d)) := rfl
  unfold mPopAtK
  rw [e1, opK_some]
  refine all_bk (R.all_mono ?_ (callP_all (xs := [.hnd, .int p.length]) (by simp only [cutS, runK, sSqK, sIfK, sIfP, tOrK, tAndK, tNotK, tValK, liE, liT, liL, liI, liO, pNotT, pT, p1, p2, pK, pCons, pNil, pYes, pSeq, pAndE, pOrE, pNotE, pAndT, pOrT, pChain, pIf, pTup, pLst, pLc, pDic, pR1, pR2, sRetP, sRetK, sAsP, sAsK, sAoP, sAoK, sDrpK, sPar2K, sPar3K, sForP, sForK, sAppC, mAndK, mOrK, mNotK, mIfK, lConsK, mTupK, mLstK, mMK, m1K, m2K, mLcK, mCallP, mCallK, in_nil, in_cons, re_zero, re_succ, bk_ok, bk_dr, opK_some, opK_none, ooK_some, ooK_none, bK_t, bK_f, hd_cons, tl_cons, s0_cons, st_cons, fl_nx, fl_rt, fl_bk, fl_ct, rt_rt, rt_nx, dB_bl, dI_int, sq_tup, sq_lst, at_tup, al_nil, al_cons, nm_set, isi_tup_t, nh_int, nh_tup, nh_lst, nh_bl, nh_all_nil, nh_all_cons, ln_nil, ln_cons, lc_nil, lc_cons, lk_nil, lk_cons, fo_nil, fo_cons, all_l, any_l, allB_nil, anyB_nil, allB_cons, anyB_cons, ix_t0, ix_l0, ix_l1, ix_t1, ix_t2, ix_t3, pSl, pNo, pPart, pEnum, skip_nx, seq_k, fclk_eq, fck_eq, len_t, len_l, eq_i, ge_i, le_i, lt_i, gt_i, add_i, sub_i, int_i, chl, chle, id_eq, ble_ok, Nat.reduceAdd, List.length_cons, List.length_nil, decide_true, decide_false, Bool.not_true, Bool.not_false, Nat.zero_add, Nat.reduceLeDiff, Int.cast_ofNat_Int, g0, s0, g1, s1, g2, s2, g3, s3, g4, s4, g5, s5, g6, s6, g7, s7, g8, s8, g9, s9, g10, s10, g11, s11, g12, s12, g13, s13, g14, s14, g15, s15, g16, s16, g17, s17, g18, s18, g19, s19, g20, s20, g21, s21, g22, s22, g23, s23, g24, s24, g25, s25, g26, s26, g27, s27, g28, s28, g29, s29, g30, s30, g31, s31, g32, s32, g33, s33, g34, s34, g35, s35, g36, s36, g37, s37, g38, s38, g39, s39, List.length_map]) (dr_all h0 h1)))
  rintro ⟨d, st⟩ ⟨rfl, i, rfl, hi⟩
  dsimp only
  rw [e1, opK_some]
  have hr : p[i]? = some p[i] := List.getElem?_eq_getElem hi
  generalize p[i] = r at hr
  show (bK (Nat.ble i 16000000) (opK (nthK (p.map R4.d) i) fun d => R.ok (d, s4 (some (.lst ((p.map R4.d).eraseIdx i))) (cutS W H p f a5 a7 a8 a9 a10 a11 a12 a13))) .bad).all _
  rw [ble_ok (by omega), bK_t, nth_map hr, opK_some, er_map]
  exact ⟨i, r, hr, rfl⟩
theorem bw_all {W H : Int} {p f : List R4} {a5 a7 a8 a9 a10 a11 a12 a13 : Option D} (h0 : 0 < p.length) (h1 : p.length < 1000) (h2 : f.length < 1000) : (bw (cutS W H p (some (.lst (f.map R4.d))) a5 a7 a8 a9 a10 a11 a12 a13)).all fun fl => ∃ (i : Nat) (r : R4), p[i]? = some r ∧ fl = .nx (cutS W H (p.eraseIdx i) (some (.lst ((f ++ [r]).map R4.d))) a5 a7 a8 a9 a10 a11 a12 a13) := by
  refine all_sq ?_
  unfold sAppKC
  rw [show g6 (cutS W H p (some (.lst (f.map R4.d))) a5 a7 a8 a9 a10 a11 a12 a13) = some (.lst (f.map R4.d)) from rfl, opK_some]
  refine all_bk (R.all_mono ?_ (pop_all h0 h1))
  rintro ⟨d, st⟩ ⟨i, r, hr, e⟩
  cases e
  dsimp only
  rw [show g6 (cutS W H (p.eraseIdx i) (some (.lst (f.map R4.d))) a5 a7 a8 a9 a10 a11 a12 a13) = some (.lst (f.map R4.d)) from rfl, opK_some]
  show (bK (nHK r.d) (bK (lenK (f.map R4.d) 0) (apC (f.map R4.d) [r.d] fun ys => R.ok (Fl.nx (s6 (some (.lst ys)) (cutS W H (p.eraseIdx i) (some (.lst (f.map R4.d))) a5 a7 a8 a9 a10 a11 a12 a13)))) .bad) .bad).all _
  have l : lenK (f.map R4.d) 0 = true := by
    rw [lenK_eq, Nat.zero_add, List.length_map]
    exact Nat.ble_eq_true_of_le (by omega)
  rw [show nHK r.d = true from rfl, bK_t, l, bK_t, apC_eq]
  refine ⟨_, rfl, ?_⟩
  rw [skip_nx]
  refine ⟨i, r, hr, ?_⟩
  rw [List.map_append]
  rfl
theorem wh_all {W H : Int} {a5 a7 a8 a9 a10 a11 a12 a13 : Option D} : ∀ (n : Nat) (p f : List R4), p.length < n → p.length + f.length < 1000 → (whK tw bw n (cutS W H p (some (.lst (f.map R4.d))) a5 a7 a8 a9 a10 a11 a12 a13)).all fun fl => ∃ f2, (f ++ p).Perm f2 ∧ fl = .nx (cutS W H [] (some (.lst (f2.map R4.d))) a5 a7 a8 a9 a10 a11 a12 a13)
  | 0, p, f, h, _ => by omega
  | n + 1, p, f, h, h2 => by
    rw [wh_succ]
    have t : tw (cutS W H p (some (.lst (f.map R4.d))) a5 a7 a8 a9 a10 a11 a12 a13) = .ok (decide ((0 : Int) < p.length), cutS W H p (some (.lst (f.map R4.d))) a5 a7 a8 a9 a10 a11 a12 a13) := by
      unfold tw
      simp only [cutS, runK, sSqK, sIfK, sIfP, tOrK, tAndK, tNotK, tValK, liE, liT, liL, liI, liO, pNotT, pT, p1, p2, pK, pCons, pNil, pYes, pSeq, pAndE, pOrE, pNotE, pAndT, pOrT, pChain, pIf, pTup, pLst, pLc, pDic, pR1, pR2, sRetP, sRetK, sAsP, sAsK, sAoP, sAoK, sDrpK, sPar2K, sPar3K, sForP, sForK, sAppC, mAndK, mOrK, mNotK, mIfK, lConsK, mTupK, mLstK, mMK, m1K, m2K, mLcK, mCallP, mCallK, in_nil, in_cons, re_zero, re_succ, bk_ok, bk_dr, opK_some, opK_none, ooK_some, ooK_none, bK_t, bK_f, hd_cons, tl_cons, s0_cons, st_cons, fl_nx, fl_rt, fl_bk, fl_ct, rt_rt, rt_nx, dB_bl, dI_int, sq_tup, sq_lst, at_tup, al_nil, al_cons, nm_set, isi_tup_t, nh_int, nh_tup, nh_lst, nh_bl, nh_all_nil, nh_all_cons, ln_nil, ln_cons, lc_nil, lc_cons, lk_nil, lk_cons, fo_nil, fo_cons, all_l, any_l, allB_nil, anyB_nil, allB_cons, anyB_cons, ix_t0, ix_l0, ix_l1, ix_t1, ix_t2, ix_t3, pSl, pNo, pPart, pEnum, skip_nx, seq_k, fclk_eq, fck_eq, len_t, len_l, eq_i, ge_i, le_i, lt_i, gt_i, add_i, sub_i, int_i, chl, chle, id_eq, ble_ok, Nat.reduceAdd, List.length_cons, List.length_nil, decide_true, decide_false, Bool.not_true, Bool.not_false, Nat.zero_add, Nat.reduceLeDiff, Int.cast_ofNat_Int, g0, s0, g1, s1, g2, s2, g3, s3, g4, s4, g5, s5, g6, s6, g7, s7, g8, s8, g9, s9, g10, s10, g11, s11, g12, s12, g13, s13, g14, s14, g15, s15, g16, s16, g17, s17, g18, s18, g19, s19, g20, s20, g21, s21, g22, s22, g23, s23, g24, s24, g25, s25, g26, s26, g27, s27, g28, s28, g29, s29, g30, s30, g31, s31, g32, s32, g33, s33, g34, s34, g35, s35, g36, s36, g37, s37, g38, s38, g39, s39, List.length_map]
    rw [t, bk_ok]
    cases p with
    | nil => exact ⟨f, by rw [List.append_nil], rfl⟩
    | cons x r =>
      rw [show decide ((0 : Int) < ((x :: r).length : Nat)) = true from decide_eq_true (by rw [List.length_cons]; omega), bK_t]
      refine all_bk (R.all_mono ?_ (bw_all (p := x :: r) (f := f) (by simp) (by omega) (by omega)))
      rintro fl ⟨i, y, hy, rfl⟩
      rw [fl_nx]
      have pm := er_perm hy
      have le : ((x :: r).eraseIdx i).length + 1 = (x :: r).length := pm.length_eq.symm
      refine R.all_mono ?_ (wh_all n ((x :: r).eraseIdx i) (f ++ [y]) (by omega) (by rw [List.length_append]; show _ + (f.length + 1) < _; omega))
      rintro fl ⟨f2, hf, rfl⟩
      refine ⟨f2, .trans ?_ hf, rfl⟩
      rw [List.append_assoc]
      exact pm.append_left f
theorem r1_k (m : ME) (st : AS) : sR1 m st = bindK (m st) fun p => opK (dIK p.1) fun n => bK (fits62 n) (.ok (rng 0 n.toNat, p.2)) .bad := by
  unfold sR1
  rw [bindK_eq]
  congr 1
  funext p
  obtain ⟨d, s⟩ := p
  cases d with
  | int n =>
    show (match fits62 n with | true => _ | false => _) = bK (fits62 n) _ _
    cases fits62 n <;> rfl
  | _ => rfl
noncomputable abbrev tl3 : MS := sSqK (sRetP (p1 oTuple g6)) sSkip
noncomputable abbrev tl2 : MS := sSqK (whK tw bw 1000) tl3
noncomputable abbrev tl1 : MS := sSqK (sAoP s6 (pLst pNil)) tl2
noncomputable abbrev tl0 : MS := sSqK (sForK (sR1 (mCallP F22 (pCons g0 (pCons g3 pNil)))) (aNm s5) bs) tl1
theorem nn23_eq : nn23 = sSqK (sAoP s4 (pLst (pCons (pTup (pCons (pK (.int 0)) (pCons (pK (.int 0)) (pCons g1 (pCons g2 pNil))))) pNil))) tl0 := rfl
def Res (W H : Int) (fl : Fl) : Prop := ∃ c, fl = .rt (cD c) ∧ Cut W H c ∧ c.length ≤ 7
theorem tl3_ok {W H : Int} {p f2 : List R4} {a5 a7 a8 a9 a10 a11 a12 a13 : Option D} : tl3 (cutS W H p (some (.lst (f2.map R4.d))) a5 a7 a8 a9 a10 a11 a12 a13) = .ok (.rt (cD f2)) := by
  unfold tl3
  simp only [cutS, runK, sSqK, sIfK, sIfP, tOrK, tAndK, tNotK, tValK, liE, liT, liL, liI, liO, pNotT, pT, p1, p2, pK, pCons, pNil, pYes, pSeq, pAndE, pOrE, pNotE, pAndT, pOrT, pChain, pIf, pTup, pLst, pLc, pDic, pR1, pR2, sRetP, sRetK, sAsP, sAsK, sAoP, sAoK, sDrpK, sPar2K, sPar3K, sForP, sForK, sAppC, mAndK, mOrK, mNotK, mIfK, lConsK, mTupK, mLstK, mMK, m1K, m2K, mLcK, mCallP, mCallK, in_nil, in_cons, re_zero, re_succ, bk_ok, bk_dr, opK_some, opK_none, ooK_some, ooK_none, bK_t, bK_f, hd_cons, tl_cons, s0_cons, st_cons, fl_nx, fl_rt, fl_bk, fl_ct, rt_rt, rt_nx, dB_bl, dI_int, sq_tup, sq_lst, at_tup, al_nil, al_cons, nm_set, isi_tup_t, nh_int, nh_tup, nh_lst, nh_bl, nh_all_nil, nh_all_cons, ln_nil, ln_cons, lc_nil, lc_cons, lk_nil, lk_cons, fo_nil, fo_cons, all_l, any_l, allB_nil, anyB_nil, allB_cons, anyB_cons, ix_t0, ix_l0, ix_l1, ix_t1, ix_t2, ix_t3, pSl, pNo, pPart, pEnum, skip_nx, seq_k, fclk_eq, fck_eq, len_t, len_l, eq_i, ge_i, le_i, lt_i, gt_i, add_i, sub_i, int_i, chl, chle, id_eq, ble_ok, Nat.reduceAdd, List.length_cons, List.length_nil, decide_true, decide_false, Bool.not_true, Bool.not_false, Nat.zero_add, Nat.reduceLeDiff, Int.cast_ofNat_Int, g0, s0, g1, s1, g2, s2, g3, s3, g4, s4, g5, s5, g6, s6, g7, s7, g8, s8, g9, s9, g10, s10, g11, s11, g12, s12, g13, s13, g14, s14, g15, s15, g16, s16, g17, s17, g18, s18, g19, s19, g20, s20, g21, s21, g22, s22, g23, s23, g24, s24, g25, s25, g26, s26, g27, s27, g28, s28, g29, s29, g30, s30, g31, s31, g32, s32, g33, s33, g34, s34, g35, s35, g36, s36, g37, s37, g38, s38, g39, s39, oTuple]
theorem tl2_ok {W H : Int} {c : List R4} {a5 a7 a8 a9 a10 a11 a12 a13 : Option D} (C : Cut W H c) (hc : c.length ≤ 7) : (tl2 (cutS W H c (some (.lst (List.map R4.d []))) a5 a7 a8 a9 a10 a11 a12 a13)).all (Res W H) := by
  refine all_sq (R.all_mono ?_ (wh_all 1000 c [] (by omega) (by simp only [List.length_nil]; omega)))
  rintro fl ⟨f2, pm, rfl⟩
  refine ⟨_, rfl, ?_⟩
  rw [tl3_ok]
  exact ⟨f2, rfl, C.perm pm, by rw [← pm.length_eq]; show c.length ≤ 7; omega⟩
theorem tl1_ok {W H : Int} (st : AS) (h : CutI W H 6 st) : (tl1 st).all (Res W H) := by
  obtain ⟨c, a5, a7, a8, a9, a10, a11, a12, a13, rfl, C, hc⟩ := h
  have i1 : sAoP s6 (pLst pNil) (cutS W H c none a5 a7 a8 a9 a10 a11 a12 a13) = .ok (.nx (cutS W H c (some (.lst (List.map R4.d []))) a5 a7 a8 a9 a10 a11 a12 a13)) := by
    simp only [cutS, runK, sSqK, sIfK, sIfP, tOrK, tAndK, tNotK, tValK, liE, liT, liL, liI, liO, pNotT, pT, p1, p2, pK, pCons, pNil, pYes, pSeq, pAndE, pOrE, pNotE, pAndT, pOrT, pChain, pIf, pTup, pLst, pLc, pDic, pR1, pR2, sRetP, sRetK, sAsP, sAsK, sAoP, sAoK, sDrpK, sPar2K, sPar3K, sForP, sForK, sAppC, mAndK, mOrK, mNotK, mIfK, lConsK, mTupK, mLstK, mMK, m1K, m2K, mLcK, mCallP, mCallK, in_nil, in_cons, re_zero, re_succ, bk_ok, bk_dr, opK_some, opK_none, ooK_some, ooK_none, bK_t, bK_f, hd_cons, tl_cons, s0_cons, st_cons, fl_nx, fl_rt, fl_bk, fl_ct, rt_rt, rt_nx, dB_bl, dI_int, sq_tup, sq_lst, at_tup, al_nil, al_cons, nm_set, isi_tup_t, nh_int, nh_tup, nh_lst, nh_bl, nh_all_nil, nh_all_cons, ln_nil, ln_cons, lc_nil, lc_cons, lk_nil, lk_cons, fo_nil, fo_cons, all_l, any_l, allB_nil, anyB_nil, allB_cons, anyB_cons, ix_t0, ix_l0, ix_l1, ix_t1, ix_t2, ix_t3, pSl, pNo, pPart, pEnum, skip_nx, seq_k, fclk_eq, fck_eq, len_t, len_l, eq_i, ge_i, le_i, lt_i, gt_i, add_i, sub_i, int_i, chl, chle, id_eq, ble_ok, Nat.reduceAdd, List.length_cons, List.length_nil, decide_true, decide_false, Bool.not_true, Bool.not_false, Nat.zero_add, Nat.reduceLeDiff, Int.cast_ofNat_Int, g0, s0, g1, s1, g2, s2, g3, s3, g4, s4, g5, s5, g6, s6, g7, s7, g8, s8, g9, s9, g10, s10, g11, s11, g12, s12, g13, s13, g14, s14, g15, s15, g16, s16, g17, s17, g18, s18, g19, s19, g20, s20, g21, s21, g22, s22, g23, s23, g24, s24, g25, s25, g26, s26, g27, s27, g28, s28, g29, s29, g30, s30, g31, s31, g32, s32, g33, s33, g34, s34, g35, s35, g36, s36, g37, s37, g38, s38, g39, s39, List.map_nil]
  rw [tl1, sq_nx i1]
  exact tl2_ok C hc
theorem d7 : (F22 [.hnd, .int 7]).all fun r => ∃ i : Nat, r = .int i ∧ i < 7 := by
  rw [dr22 (by decide) (by decide)]
  intro d hd
  have hd : d < 7 := hd
  exact ⟨d, rfl, hd⟩
theorem fits_nat {i : Nat} (h : i < 7) : fits62 (i : Int) = true := fits_ok (by omega) (by omega)
theorem src_ok {W H : Int} {c : List R4} : (sR1 (mCallP F22 (pCons g0 (pCons g3 pNil))) (cutS W H c none none none none none none none none none)).all fun x => x.1.length ≤ 6 ∧ x.2 = cutS W H c none none none none none none none none none := by
  rw [r1_k]
  have e : pCons g0 (pCons g3 pNil) (cutS W H c none none none none none none none none none) = some [.hnd, .int 7] := by
    simp only [cutS, runK, sSqK, sIfK, sIfP, tOrK, tAndK, tNotK, tValK, liE, liT, liL, liI, liO, pNotT, pT, p1, p2, pK, pCons, pNil, pYes, pSeq, pAndE, pOrE, pNotE, pAndT, pOrT, pChain, pIf, pTup, pLst, pLc, pDic, pR1, pR2, sRetP, sRetK, sAsP, sAsK, sAoP, sAoK, sDrpK, sPar2K, sPar3K, sForP, sForK, sAppC, mAndK, mOrK, mNotK, mIfK, lConsK, mTupK, mLstK, mMK, m1K, m2K, mLcK, mCallP, mCallK, in_nil, in_cons, re_zero, re_succ, bk_ok, bk_dr, opK_some, opK_none, ooK_some, ooK_none, bK_t, bK_f, hd_cons, tl_cons, s0_cons, st_cons, fl_nx, fl_rt, fl_bk, fl_ct, rt_rt, rt_nx, dB_bl, dI_int, sq_tup, sq_lst, at_tup, al_nil, al_cons, nm_set, isi_tup_t, nh_int, nh_tup, nh_lst, nh_bl, nh_all_nil, nh_all_cons, ln_nil, ln_cons, lc_nil, lc_cons, lk_nil, lk_cons, fo_nil, fo_cons, all_l, any_l, allB_nil, anyB_nil, allB_cons, anyB_cons, ix_t0, ix_l0, ix_l1, ix_t1, ix_t2, ix_t3, pSl, pNo, pPart, pEnum, skip_nx, seq_k, fclk_eq, fck_eq, len_t, len_l, eq_i, ge_i, le_i, lt_i, gt_i, add_i, sub_i, int_i, chl, chle, id_eq, ble_ok, Nat.reduceAdd, List.length_cons, List.length_nil, decide_true, decide_false, Bool.not_true, Bool.not_false, Nat.zero_add, Nat.reduceLeDiff, Int.cast_ofNat_Int, g0, s0, g1, s1, g2, s2, g3, s3, g4, s4, g5, s5, g6, s6, g7, s7, g8, s8, g9, s9, g10, s10, g11, s11, g12, s12, g13, s13, g14, s14, g15, s15, g16, s16, g17, s17, g18, s18, g19, s19, g20, s20, g21, s21, g22, s22, g23, s23, g24, s24, g25, s25, g26, s26, g27, s27, g28, s28, g29, s29, g30, s30, g31, s31, g32, s32, g33, s33, g34, s34, g35, s35, g36, s36, g37, s37, g38, s38, g39, s39]
  refine all_bk (R.all_mono ?_ (callP_all e d7))
  rintro ⟨d, s⟩ ⟨rfl, i, rfl, hi⟩
  rw [dI_int, opK_some, fits_nat hi, bK_t]
  refine ⟨?_, rfl⟩
  show (rng 0 (Int.toNat (i : Nat))).length ≤ 6
  rw [rng_len]
  omega
theorem CutI.le {W H : Int} {k k2 : Nat} {st : AS} (h : CutI W H k st) (hk : k ≤ k2) : CutI W H k2 st := by
  obtain ⟨c, a5, a7, a8, a9, a10, a11, a12, a13, e, C, hc⟩ := h
  exact ⟨c, a5, a7, a8, a9, a10, a11, a12, a13, e, C, by omega⟩
theorem tl0_ok {W H : Int} {c : List R4} (C : Cut W H c) (hc : c.length ≤ 1) : (tl0 (cutS W H c none none none none none none none none none)).all (Res W H) := by
  refine all_sq ?_
  unfold sForK
  refine all_bk (R.all_mono (fun x hx => ?_) src_ok)
  obtain ⟨hl, hx2⟩ := hx
  rw [hx2]
  refine R.all_mono ?_ (forK_alln (I := CutI W H) (K := 6) x.1 0 _ (fun d _ k hk st hst => bs_ok C.W2 C.H2 d k hk st hst) (by omega) ⟨c, none, none, none, none, none, none, none, none, rfl, C, by omega⟩)
  rintro fl ⟨st, rfl, h⟩
  exact ⟨_, rfl, tl1_ok st (h.le (by omega))⟩
theorem t23 {W H : Int} (h1 : 1 ≤ W) (h2 : 1 ≤ H) (h3 : W ≤ 200) (h4 : H ≤ 200) : (F23 [.hnd, .int W, .int H, .int 7]).all fun d => ∃ c, d = cD c ∧ Cut W H c ∧ c.length ≤ 7 := by
  unfold F23 runK
  refine all_bk ?_
  rw [nn23_eq]
  have i0 : sAoP s4 (pLst (pCons (pTup (pCons (pK (.int 0)) (pCons (pK (.int 0)) (pCons g1 (pCons g2 pNil))))) pNil)) (initK [.hnd, .int W, .int H, .int 7] 14) = .ok (.nx (cutS W H [⟨0, 0, W, H⟩] none none none none none none none none none)) := by
    simp only [cutS, runK, sSqK, sIfK, sIfP, tOrK, tAndK, tNotK, tValK, liE, liT, liL, liI, liO, pNotT, pT, p1, p2, pK, pCons, pNil, pYes, pSeq, pAndE, pOrE, pNotE, pAndT, pOrT, pChain, pIf, pTup, pLst, pLc, pDic, pR1, pR2, sRetP, sRetK, sAsP, sAsK, sAoP, sAoK, sDrpK, sPar2K, sPar3K, sForP, sForK, sAppC, mAndK, mOrK, mNotK, mIfK, lConsK, mTupK, mLstK, mMK, m1K, m2K, mLcK, mCallP, mCallK, in_nil, in_cons, re_zero, re_succ, bk_ok, bk_dr, opK_some, opK_none, ooK_some, ooK_none, bK_t, bK_f, hd_cons, tl_cons, s0_cons, st_cons, fl_nx, fl_rt, fl_bk, fl_ct, rt_rt, rt_nx, dB_bl, dI_int, sq_tup, sq_lst, at_tup, al_nil, al_cons, nm_set, isi_tup_t, nh_int, nh_tup, nh_lst, nh_bl, nh_all_nil, nh_all_cons, ln_nil, ln_cons, lc_nil, lc_cons, lk_nil, lk_cons, fo_nil, fo_cons, all_l, any_l, allB_nil, anyB_nil, allB_cons, anyB_cons, ix_t0, ix_l0, ix_l1, ix_t1, ix_t2, ix_t3, pSl, pNo, pPart, pEnum, skip_nx, seq_k, fclk_eq, fck_eq, len_t, len_l, eq_i, ge_i, le_i, lt_i, gt_i, add_i, sub_i, int_i, chl, chle, id_eq, ble_ok, Nat.reduceAdd, List.length_cons, List.length_nil, decide_true, decide_false, Bool.not_true, Bool.not_false, Nat.zero_add, Nat.reduceLeDiff, Int.cast_ofNat_Int, g0, s0, g1, s1, g2, s2, g3, s3, g4, s4, g5, s5, g6, s6, g7, s7, g8, s8, g9, s9, g10, s10, g11, s11, g12, s12, g13, s13, g14, s14, g15, s15, g16, s16, g17, s17, g18, s18, g19, s19, g20, s20, g21, s21, g22, s22, g23, s23, g24, s24, g25, s25, g26, s26, g27, s27, g28, s28, g29, s29, g30, s30, g31, s31, g32, s32, g33, s33, g34, s34, g35, s35, g36, s36, g37, s37, g38, s38, g39, s39, List.map_cons, List.map_nil, R4.d]
  rw [sq_nx i0]
  refine R.all_mono ?_ (tl0_ok (Cut.unit h1 h2 h3 h4) (by simp))
  rintro fl ⟨c, rfl, h⟩
  exact ⟨c, rfl, h⟩
end EV
set_option maxHeartbeats 0
namespace EV
open PySem PySem.Spec PyProof.Rows L2 RZ
theorem liE_ok {e : PX} {st : AS} {d : D} (h : e st = some d) : liE e st = .ok (d, st) := by
  unfold liE
  rw [h]
  rfl
theorem m1_ok {f : D → Option D} {m : ME} {st st' : AS} {d e : D} (h : m st = .ok (d, st')) (hf : f d = some e) : m1K f m st = .ok (e, st') := by
  unfold m1K
  rw [h, bk_ok]
  dsimp only
  rw [hf]
  rfl
theorem m2_ok {f : D → D → Option D} {x y : ME} {st st' st'' : AS} {d e v : D} (h : x st = .ok (d, st')) (h2 : y st' = .ok (e, st'')) (hf : f d e = some v) : m2K f x y st = .ok (v, st'') := by
  unfold m2K
  rw [h, bk_ok]
  dsimp only
  rw [h2, bk_ok]
  dsimp only
  rw [hf]
  rfl
theorem p1_of {f : D → Option D} {x : PX} {st : AS} {d e : D} (h : x st = some d) (hf : f d = some e) : p1 f x st = some e := by
  unfold p1
  rw [h, ooK_some, hf]
theorem asK_ok {A : AT} {m : ME} {st st' st2 : AS} {d : D} (h : m st = .ok (d, st')) (hA : A d st' = some st2) : sAsK A m st = .ok (.nx st2) := by
  unfold sAsK
  rw [h, bk_ok]
  dsimp only
  rw [hA]
  rfl
theorem asP_ok {A : AT} {e : PX} {st st2 : AS} {d : D} (h : e st = some d) (hA : A d st = some st2) : sAsP A e st = .ok (.nx st2) := by
  unfold sAsP
  rw [h, opK_some, hA]
  rfl
/-- a test that fails to find a difference -/
theorem ifK_ok {f : D → D → Option D} {x y : ME} {st : AS} {d e : D} {a b : MS} (hx : x st = .ok (d, st)) (hy : y st = .ok (e, st)) (he : f d e = some (.bl false)) : sSqK (sIfK (tValK (m2K f x y)) a sSkip) b st = b st := by
  refine sq_nx ?_
  unfold sIfK tValK
  rw [m2_ok hx hy he]
  rfl
theorem ifP_ok {f : D → D → Option D} {x y : PX} {st : AS} {d e : D} {a b : MS} (hx : x st = some d) (hy : y st = some e) (he : f d e = some (.bl false)) : sSqK (sIfP (pT (p2 f x y)) a sSkip) b st = b st := by
  refine sq_nx ?_
  unfold sIfP pT p2
  rw [hx, ooK_some, hy, ooK_some, he]
  rfl
theorem pLc_of {α β : Type} {A : AT} {w : AS → AS} {c : PB} {e : PX} {st : AS} {s : PL} {g : α → D} {k : β → D} {t : α → β} (l : List α) (hs : s st = some (l.map g)) (h : ∀ r ∈ l, ∃ st1, A (g r) (w st) = some st1 ∧ c st1 = some true ∧ e st1 = some (k (t r)) ∧ nHK (k (t r)) = true) (hl : l.length ≤ 16000000) : pLc s A w c e st = some (.lst ((l.map t).map k)) := by
  unfold pLc
  rw [hs, ooK_some, map_map2]
  show ooK (lcP A c e (w st) (l.map g) 0) _ = _
  rw [lcP_mapg (h := fun r => k (t r)) l 0 h (by omega)]
  rfl
end EV
set_option maxHeartbeats 0
namespace EV
open PySem PySem.Spec PyProof.Rows L2 RZ
theorem t21 {W H : Int} {c : List R4} (C : Cut W H c) {v : D} (h : F3 [one W, one H] = .ok v) : F21 [cD c] = .ok v := by
  unfold one at h
  simp only [F21, nn21, runK, sSqK, sIfK, sIfP, tOrK, tAndK, tNotK, tValK, liE, liT, liL, liI, liO, pNotT, pT, p1, p2, pK, pCons, pNil, pYes, pSeq, pAndE, pOrE, pNotE, pAndT, pOrT, pChain, pIf, pTup, pLst, pLc, pDic, pR1, pR2, sRetP, sRetK, sAsP, sAsK, sAoP, sAoK, sDrpK, sPar2K, sPar3K, sForP, sForK, sAppC, mAndK, mOrK, mNotK, mIfK, lConsK, mTupK, mLstK, mMK, m1K, m2K, mLcK, mCallP, mCallK, in_nil, in_cons, re_zero, re_succ, bk_ok, bk_dr, opK_some, opK_none, ooK_some, ooK_none, bK_t, bK_f, hd_cons, tl_cons, s0_cons, st_cons, fl_nx, fl_rt, fl_bk, fl_ct, rt_rt, rt_nx, dB_bl, dI_int, sq_tup, sq_lst, at_tup, al_nil, al_cons, nm_set, isi_tup_t, nh_int, nh_tup, nh_lst, nh_bl, nh_all_nil, nh_all_cons, ln_nil, ln_cons, lc_nil, lc_cons, lk_nil, lk_cons, fo_nil, fo_cons, all_l, any_l, allB_nil, anyB_nil, allB_cons, anyB_cons, ix_t0, ix_l0, ix_l1, ix_t1, ix_t2, ix_t3, pSl, pNo, pPart, pEnum, skip_nx, seq_k, fclk_eq, fck_eq, len_t, len_l, eq_i, ge_i, le_i, lt_i, gt_i, add_i, sub_i, int_i, chl, chle, id_eq, ble_ok, Nat.reduceAdd, List.length_cons, List.length_nil, decide_true, decide_false, Bool.not_true, Bool.not_false, Nat.zero_add, Nat.reduceLeDiff, Int.cast_ofNat_Int, g0, s0, g1, s1, g2, s2, g3, s3, g4, s4, g5, s5, g6, s6, g7, s7, g8, s8, g9, s9, g10, s10, g11, s11, g12, s12, g13, s13, g14, s14, g15, s15, g16, s16, g17, s17, g18, s18, g19, s19, g20, s20, g21, s21, g22, s22, g23, s23, g24, s24, g25, s25, g26, s26, g27, s27, g28, s28, g29, s29, g30, s30, g31, s31, g32, s32, g33, s33, g34, s34, g35, s35, g36, s36, g37, s37, g38, s38, g39, s39, t8 C, h]
theorem rat_ok {W H : Int} (h1 : 1 ≤ W) (h2 : W ≤ 9) (h3 : 1 ≤ H) (h4 : H ≤ 9) : ∃ p : P2, F3 [one W, one H] = .ok p.d ∧ F24 [.int W, .int H] = .ok p.d := by
  obtain ⟨w, rfl⟩ : ∃ w : Nat, W = (w + 1 : Nat) := ⟨(W - 1).toNat, by omega⟩
  obtain ⟨h, rfl⟩ : ∃ h : Nat, H = (h + 1 : Nat) := ⟨(H - 1).toNat, by omega⟩
  have := List.all_eq_true.mp (List.all_eq_true.mp ratB_all w (List.mem_range.mpr (by omega))) h (List.mem_range.mpr (by omega))
  unfold ratB at this
  split at this
  · rename_i a b c d e1 e2
    rw [Bool.and_eq_true, decide_eq_true_eq, decide_eq_true_eq] at this
    obtain ⟨rfl, rfl⟩ := this
    exact ⟨(a, b), e1, e2⟩
  · cases this
theorem ratk_ok {W H K : Int} (h1 : 1 ≤ W) (h2 : W ≤ 9) (h3 : 1 ≤ H) (h4 : H ≤ 9) (h5 : 1 ≤ K) (h6 : K ≤ 6) : ∃ p : P2, F3 [one W, one H] = .ok p.d ∧ F3 [one (W * K), one (H * K)] = .ok p.d := by
  obtain ⟨w, rfl⟩ : ∃ w : Nat, W = (w + 1 : Nat) := ⟨(W - 1).toNat, by omega⟩
  obtain ⟨h, rfl⟩ : ∃ h : Nat, H = (h + 1 : Nat) := ⟨(H - 1).toNat, by omega⟩
  obtain ⟨k, rfl⟩ : ∃ k : Nat, K = (k + 1 : Nat) := ⟨(K - 1).toNat, by omega⟩
  have := List.all_eq_true.mp (List.all_eq_true.mp (List.all_eq_true.mp ratK_all w (List.mem_range.mpr (by omega))) h (List.mem_range.mpr (by omega))) k (List.mem_range.mpr (by omega))
  unfold ratK at this
  split at this
  · rename_i a b c d e1 e2
    rw [Bool.and_eq_true, decide_eq_true_eq, decide_eq_true_eq] at this
    obtain ⟨rfl, rfl⟩ := this
    rw [← Int.natCast_mul, ← Int.natCast_mul]
    exact ⟨(a, b), e1, e2⟩
  · cases this
theorem eqp (p : P2) : oEqFK (fun b => !b) p.d p.d = some (.bl false) := eq_same rfl
theorem eqb (b : Bool) : oEqFK (fun b => !b) (.bl b) (.bl b) = some (.bl false) := eq_same rfl
theorem ne4 (c : List R4) : oEqFK (fun b => !b) (.lst (sortR gtD (c.map R4.d))) (.lst (sortR gtD (c.map R4.d))) = some (.bl false) := eqs4 c
theorem neo (c : List R4) : oEqFK (fun b => !b) (.lst (sortR gtD (c.map R4.o))) (.lst (sortR gtD (c.map R4.o))) = some (.bl false) := eqso c
theorem ne2 (c : List P2) : oEqFK (fun b => !b) (.lst (sortR gtD (c.map P2.d))) (.lst (sortR gtD (c.map P2.d))) = some (.bl false) := eqs2 c
theorem sr4 (c : List R4) : oSortK (cD c) = some (.lst (sortR gtD (c.map R4.d))) := sort4 c
theorem sr4l (c : List R4) : oSortK (.lst (c.map R4.d)) = some (.lst (sortR gtD (c.map R4.d))) := sort4 c
theorem sro (c : List R4) : oSortK (.tup (c.map R4.o)) = some (.lst (sortR gtD (c.map R4.o))) := sorto c
theorem srol (c : List R4) : oSortK (.lst (c.map R4.o)) = some (.lst (sortR gtD (c.map R4.o))) := sorto c
theorem sr2 (c : List P2) : oSortK (.tup (c.map P2.d)) = some (.lst (sortR gtD (c.map P2.d))) := sort2 c
theorem sh_tr (W H : Int) (c : List R4) : ((c.map tr).map fun r => fr (area r) (H * W)) = c.map fun r => fr (area r) (W * H) := by
  rw [map_map2, Int.mul_comm H W]
  congr 1
  funext r
  rw [show area (tr r) = area r from Int.mul_comm _ _]
/-- the state of a turn -/
abbrev lS (a3 a4 a5 a6 a7 a8 a9 a10 a11 a12 a13 a14 a15 a16 a17 a18 a19 a20 : Option D) : AS := [none, some .hnd, none, a3, a4, a5, a6, a7, a8, a9, a10, a11, a12, a13, a14, a15, a16, a17, a18, a19, a20, none, none, none, none, none, none]
section
variable {W H : Int} {c : List R4} (C : Cut W H c) (hl : c.length ≤ 7) (hW : 1 ≤ W) (hW9 : W ≤ 9) (hH : 1 ≤ H) (hH9 : H ≤ 9)
include C hl hW hW9 hH hH9
theorem lb : c.length ≤ 16000000 := by omega
theorem segA1 : kB_2 (lS (some (cD c)) none none none none none none none none (some (.int W)) (some (.int H)) none none none none none none none) = kB_6 (lS (some (cD c)) (some (cD (c.map tr))) (some (cD (c.map (mi W)))) none none none none none none (some (.int W)) (some (.int H)) none none none none none none none) := by
  have a1 : kB_2 (lS (some (cD c)) none none none none none none none none (some (.int W)) (some (.int H)) none none none none none none none) = kB_3 (lS (some (cD c)) (some (cD (c.map tr))) none none none none none none none (some (.int W)) (some (.int H)) none none none none none none none) := by
    unfold kB_2
    exact sq_nx (asK_ok (callP_ok (xs := [cD c]) rfl (t16 C)) rfl)
  have a2 : kB_3 (lS (some (cD c)) (some (cD (c.map tr))) none none none none none none none (some (.int W)) (some (.int H)) none none none none none none none) = kB_4 (lS (some (cD c)) (some (cD (c.map tr))) none none none none none none none (some (.int W)) (some (.int H)) none none none none none none none) := by
    unfold kB_3
    refine ifP_ok (p1_of rfl (sr4 _)) (p1_of (pLc_of (g := R4.d) (k := R4.d) (t := tr) c rfl (fun r hr => ⟨[none, some .hnd, none, some (cD c), some (cD (c.map tr)), none, none, none, none, none, none, none, some (.int W), some (.int H), none, none, none, none, none, none, none, none, some (.int r.x), some (.int r.y), some (.int r.w), some (.int r.h), none], rfl, rfl, ?_, rfl⟩) (by omega)) (sr4l _)) (ne4 _)
    simp only [R4.d, tr, runK, sSqK, sIfK, sIfP, tOrK, tAndK, tNotK, tValK, liE, liT, liL, liI, liO, pNotT, pT, p1, p2, pK, pCons, pNil, pYes, pSeq, pAndE, pOrE, pNotE, pAndT, pOrT, pChain, pIf, pTup, pLst, pLc, pDic, pR1, pR2, sRetP, sRetK, sAsP, sAsK, sAoP, sAoK, sDrpK, sPar2K, sPar3K, sForP, sForK, sAppC, mAndK, mOrK, mNotK, mIfK, lConsK, mTupK, mLstK, mMK, m1K, m2K, mLcK, mCallP, mCallK, in_nil, in_cons, re_zero, re_succ, bk_ok, bk_dr, opK_some, opK_none, ooK_some, ooK_none, bK_t, bK_f, hd_cons, tl_cons, s0_cons, st_cons, fl_nx, fl_rt, fl_bk, fl_ct, rt_rt, rt_nx, dB_bl, dI_int, sq_tup, sq_lst, at_tup, al_nil, al_cons, nm_set, isi_tup_t, nh_int, nh_tup, nh_lst, nh_bl, nh_all_nil, nh_all_cons, ln_nil, ln_cons, lc_nil, lc_cons, lk_nil, lk_cons, fo_nil, fo_cons, all_l, any_l, allB_nil, anyB_nil, allB_cons, anyB_cons, ix_t0, ix_l0, ix_l1, ix_t1, ix_t2, ix_t3, pSl, pNo, pPart, pEnum, skip_nx, seq_k, fclk_eq, fck_eq, len_t, len_l, eq_i, ge_i, le_i, lt_i, gt_i, add_i, sub_i, int_i, chl, chle, id_eq, ble_ok, Nat.reduceAdd, List.length_cons, List.length_nil, decide_true, decide_false, Bool.not_true, Bool.not_false, Nat.zero_add, Nat.reduceLeDiff, Int.cast_ofNat_Int, g0, s0, g1, s1, g2, s2, g3, s3, g4, s4, g5, s5, g6, s6, g7, s7, g8, s8, g9, s9, g10, s10, g11, s11, g12, s12, g13, s13, g14, s14, g15, s15, g16, s16, g17, s17, g18, s18, g19, s19, g20, s20, g21, s21, g22, s22, g23, s23, g24, s24, g25, s25, g26, s26, g27, s27, g28, s28, g29, s29, g30, s30, g31, s31, g32, s32, g33, s33, g34, s34, g35, s35, g36, s36, g37, s37, g38, s38, g39, s39]
  have a3 : kB_4 (lS (some (cD c)) (some (cD (c.map tr))) none none none none none none none (some (.int W)) (some (.int H)) none none none none none none none) = kB_5 (lS (some (cD c)) (some (cD (c.map tr))) (some (cD (c.map (mi W)))) none none none none none none (some (.int W)) (some (.int H)) none none none none none none none) := by
    unfold kB_4
    exact sq_nx (asK_ok (callP_ok (xs := [cD c]) rfl (t15 C)) rfl)
  have a4 : kB_5 (lS (some (cD c)) (some (cD (c.map tr))) (some (cD (c.map (mi W)))) none none none none none none (some (.int W)) (some (.int H)) none none none none none none none) = kB_6 (lS (some (cD c)) (some (cD (c.map tr))) (some (cD (c.map (mi W)))) none none none none none none (some (.int W)) (some (.int H)) none none none none none none none) := by
    unfold kB_5
    refine ifP_ok (p1_of rfl (sr4 _)) (p1_of (pLc_of (g := R4.d) (k := R4.d) (t := mi W) c rfl (fun r hr => ⟨[none, some .hnd, none, some (cD c), some (cD (c.map tr)), some (cD (c.map (mi W))), none, none, none, none, none, none, some (.int W), some (.int H), none, none, none, none, none, none, none, none, some (.int r.x), some (.int r.y), some (.int r.w), some (.int r.h), none], rfl, rfl, ?_, rfl⟩) (by omega)) (sr4l _)) (ne4 _)
    simp only [R4.d, mi, runK, sSqK, sIfK, sIfP, tOrK, tAndK, tNotK, tValK, liE, liT, liL, liI, liO, pNotT, pT, p1, p2, pK, pCons, pNil, pYes, pSeq, pAndE, pOrE, pNotE, pAndT, pOrT, pChain, pIf, pTup, pLst, pLc, pDic, pR1, pR2, sRetP, sRetK, sAsP, sAsK, sAoP, sAoK, sDrpK, sPar2K, sPar3K, sForP, sForK, sAppC, mAndK, mOrK, mNotK, mIfK, lConsK, mTupK, mLstK, mMK, m1K, m2K, mLcK, mCallP, mCallK, in_nil, in_cons, re_zero, re_succ, bk_ok, bk_dr, opK_some, opK_none, ooK_some, ooK_none, bK_t, bK_f, hd_cons, tl_cons, s0_cons, st_cons, fl_nx, fl_rt, fl_bk, fl_ct, rt_rt, rt_nx, dB_bl, dI_int, sq_tup, sq_lst, at_tup, al_nil, al_cons, nm_set, isi_tup_t, nh_int, nh_tup, nh_lst, nh_bl, nh_all_nil, nh_all_cons, ln_nil, ln_cons, lc_nil, lc_cons, lk_nil, lk_cons, fo_nil, fo_cons, all_l, any_l, allB_nil, anyB_nil, allB_cons, anyB_cons, ix_t0, ix_l0, ix_l1, ix_t1, ix_t2, ix_t3, pSl, pNo, pPart, pEnum, skip_nx, seq_k, fclk_eq, fck_eq, len_t, len_l, eq_i, ge_i, le_i, lt_i, gt_i, add_i, sub_i, int_i, chl, chle, id_eq, ble_ok, Nat.reduceAdd, List.length_cons, List.length_nil, decide_true, decide_false, Bool.not_true, Bool.not_false, Nat.zero_add, Nat.reduceLeDiff, Int.cast_ofNat_Int, g0, s0, g1, s1, g2, s2, g3, s3, g4, s4, g5, s5, g6, s6, g7, s7, g8, s8, g9, s9, g10, s10, g11, s11, g12, s12, g13, s13, g14, s14, g15, s15, g16, s16, g17, s17, g18, s18, g19, s19, g20, s20, g21, s21, g22, s22, g23, s23, g24, s24, g25, s25, g26, s26, g27, s27, g28, s28, g29, s29, g30, s30, g31, s31, g32, s32, g33, s33, g34, s34, g35, s35, g36, s36, g37, s37, g38, s38, g39, s39]
  rw [a1, a2, a3, a4]
theorem segA2 : kB_6 (lS (some (cD c)) (some (cD (c.map tr))) (some (cD (c.map (mi W)))) none none none none none none (some (.int W)) (some (.int H)) none none none none none none none) = kB_11 (lS (some (cD c)) (some (cD (c.map tr))) (some (cD (c.map (mi W)))) none none none none none none (some (.int W)) (some (.int H)) none none none none none none none) := by
  have e1 : (c.map tr).map tr = c := by rw [map_map2, show (fun a => tr (tr a)) = id from rfl, List.map_id]
  have e2 : (c.map (mi W)).map (mi W) = c := by
    rw [map_map2, show (fun a => mi W (mi W a)) = id from funext fun r => by
      show (⟨W - (W - r.x - r.w) - r.w, r.y, r.w, r.h⟩ : R4) = r
      rw [show W - (W - r.x - r.w) - r.w = r.x by omega], List.map_id]
  have f1 := t16 C.tr
  rw [e1] at f1
  have f2 := t15 C.mi
  rw [e2] at f2
  obtain ⟨p, p1, p2⟩ := rat_ok hW hW9 hH hH9
  obtain ⟨q, q1, q2⟩ := rat_ok hH hH9 hW hW9
  have m9 : W * H ≤ 900 := by
    have := Int.mul_le_mul hW9 hH9 (by omega) (by omega : (0 : Int) ≤ 9)
    omega
  have g1' := t19 C m9
  have g2' := t19 C.tr (by rw [Int.mul_comm]; exact m9)
  rw [sh_tr] at g2'
  have a1 : ∀ st, g4 st = some (cD (c.map tr)) → g3 st = some (cD c) → kB_6 st = kB_7 st := fun st h h2 => by
    unfold kB_6
    refine ifK_ok (m1_ok (callP_ok (xs := [cD (c.map tr)]) ?_ f1) (sr4 _)) (liE_ok (p1_of h2 (sr4 _))) (ne4 _)
    show ooK (g4 st) _ = _
    rw [h]
    rfl
  have a2 : ∀ st, g5 st = some (cD (c.map (mi W))) → g3 st = some (cD c) → kB_7 st = kB_8 st := fun st h h2 => by
    unfold kB_7
    refine ifK_ok (m1_ok (callP_ok (xs := [cD (c.map (mi W))]) ?_ f2) (sr4 _)) (liE_ok (p1_of h2 (sr4 _))) (ne4 _)
    show ooK (g5 st) _ = _
    rw [h]
    rfl
  have a3 : kB_8 (lS (some (cD c)) (some (cD (c.map tr))) (some (cD (c.map (mi W)))) none none none none none none (some (.int W)) (some (.int H)) none none none none none none none) = kB_9 (lS (some (cD c)) (some (cD (c.map tr))) (some (cD (c.map (mi W)))) none none none none none none (some (.int W)) (some (.int H)) none none none none none none none) := by
    unfold kB_8
    exact ifK_ok (callP_ok (xs := [cD c]) rfl (t21 C p1)) (callP_ok (xs := [.int W, .int H]) rfl p2) (eqp p)
  have a4 : kB_9 (lS (some (cD c)) (some (cD (c.map tr))) (some (cD (c.map (mi W)))) none none none none none none (some (.int W)) (some (.int H)) none none none none none none none) = kB_10 (lS (some (cD c)) (some (cD (c.map tr))) (some (cD (c.map (mi W)))) none none none none none none (some (.int W)) (some (.int H)) none none none none none none none) := by
    unfold kB_9
    exact ifK_ok (callP_ok (xs := [cD (c.map tr)]) rfl (t21 C.tr q1)) (callP_ok (xs := [.int H, .int W]) rfl q2) (eqp q)
  have a5 : kB_10 (lS (some (cD c)) (some (cD (c.map tr))) (some (cD (c.map (mi W)))) none none none none none none (some (.int W)) (some (.int H)) none none none none none none none) = kB_11 (lS (some (cD c)) (some (cD (c.map tr))) (some (cD (c.map (mi W)))) none none none none none none (some (.int W)) (some (.int H)) none none none none none none none) := by
    unfold kB_10
    exact ifK_ok (m1_ok (callP_ok (xs := [cD (c.map tr)]) rfl g2') (sr2 _)) (m1_ok (callP_ok (xs := [cD c]) rfl g1') (sr2 _)) (ne2 _)
  rw [a1 _ rfl rfl, a2 _ rfl rfl, a3, a4, a5]
end
end EV
set_option maxHeartbeats 0
namespace EV
open PySem PySem.Spec PyProof.Rows L2 RZ
def st4 (a b : Int) (r : R4) : R4 := ⟨r.x * a, r.y * b, r.w * a, r.h * b⟩
def un (k : Int) (r : R4) : R4 := ⟨r.x.fdiv k, r.y.fdiv k, r.w.fdiv k, r.h.fdiv k⟩
theorem un_gr {k : Int} (h : 1 ≤ k) (r : R4) : un k (gr k r) = r := by
  show (⟨(r.x * k).fdiv k, (r.y * k).fdiv k, (r.w * k).fdiv k, (r.h * k).fdiv k⟩ : R4) = r
  rw [Int.mul_fdiv_cancel _ (by omega), Int.mul_fdiv_cancel _ (by omega), Int.mul_fdiv_cancel _ (by omega), Int.mul_fdiv_cancel _ (by omega)]
theorem at_lst (A : ALs) (xs : List D) (st : AS) : aTp A (.lst xs) st = A xs st := rfl
theorem addT (c : List R4) (q : R4) (h : c.length ≤ 100) : oAddK (cD c) (.tup [q.d]) = some (cD (c ++ [q])) := by
  rw [oAddK_eq]
  show oAdd (.tup (c.map R4.d)) (.tup [q.d]) = _
  have l : lenOk ((c.map R4.d).length + 1) = true := Nat.ble_eq_true_of_le (by rw [List.length_map]; omega)
  rw [show cD (c ++ [q]) = .tup ((c ++ [q]).map R4.d) from rfl, List.map_append]
  show (if lenOk ((c.map R4.d).length + 1) = true then some (D.tup (c.map R4.d ++ [q.d])) else none) = _
  rw [if_pos l]
  rfl
section
variable {W H k : Int} {c : List R4} (C : Cut W H c) (hl : c.length ≤ 7) (hW : 1 ≤ W) (hW9 : W ≤ 9) (hH : 1 ≤ H) (hH9 : H ≤ 9) (hk : 1 ≤ k) (hk6 : k ≤ 6)
include C hl hW hW9 hH hH9 hk hk6
theorem Cut.grk : Cut (W * k) (H * k) (c.map (EV.gr k)) := by
  have h1 := Int.mul_le_mul hW9 hk6 (by omega) (by omega : (0 : Int) ≤ 9)
  have h2 := Int.mul_le_mul hH9 hk6 (by omega) (by omega : (0 : Int) ≤ 9)
  exact C.gr hk (by omega) (by omega)
theorem segB : kB_12 (lS (some (cD c)) (some (cD (c.map tr))) (some (cD (c.map (mi W)))) (some (.int k)) none none none none none (some (.int W)) (some (.int H)) none none none none none none none) = kB_17 (lS (some (cD c)) (some (cD (c.map tr))) (some (cD (c.map (mi W)))) (some (.int k)) (some (cD (c.map (gr k)))) none none none none (some (.int W)) (some (.int H)) none none none none none none none) := by
  have C2 := C.grk hl hW hW9 hH hH9 hk hk6
  obtain ⟨p, hp1, hp2⟩ := ratk_ok hW hW9 hH hH9 hk hk6
  have a1 : kB_12 (lS (some (cD c)) (some (cD (c.map tr))) (some (cD (c.map (mi W)))) (some (.int k)) none none none none none (some (.int W)) (some (.int H)) none none none none none none none) = kB_13 (lS (some (cD c)) (some (cD (c.map tr))) (some (cD (c.map (mi W)))) (some (.int k)) (some (cD (c.map (gr k)))) none none none none (some (.int W)) (some (.int H)) none none none none none none none) := by
    unfold kB_12
    exact sq_nx (asK_ok (callP_ok (xs := [cD c, .int k]) rfl (t17 C hk (by omega))) rfl)
  have a2 : kB_13 (lS (some (cD c)) (some (cD (c.map tr))) (some (cD (c.map (mi W)))) (some (.int k)) (some (cD (c.map (gr k)))) none none none none (some (.int W)) (some (.int H)) none none none none none none none) = kB_14 (lS (some (cD c)) (some (cD (c.map tr))) (some (cD (c.map (mi W)))) (some (.int k)) (some (cD (c.map (gr k)))) none none none none (some (.int W)) (some (.int H)) none none none none none none none) := by
    unfold kB_13
    refine ifP_ok (p1_of rfl (sr4 _)) (p1_of (pLc_of (g := R4.d) (k := R4.d) (t := gr k) c rfl (fun r hr => ⟨[none, some .hnd, none, some (cD c), some (cD (c.map tr)), some (cD (c.map (mi W))), some (.int k), some (cD (c.map (gr k))), none, none, none, none, some (.int W), some (.int H), none, none, none, none, none, none, none, none, some (.int r.x), some (.int r.y), some (.int r.w), some (.int r.h), none], rfl, rfl, ?_, rfl⟩) (by omega)) (sr4l _)) (ne4 _)
    have b := C.pt r hr
    have m1 := mul_i (i := r.x) (j := k) (by have := b.x0; omega) (by have := b.x2; omega)
    have m2 := mul_i (i := r.y) (j := k) (by have := b.y0; omega) (by have := b.y2; omega)
    have m3 := mul_i (i := r.w) (j := k) (by have := b.w1; omega) (by have := b.w2; omega)
    have m4 := mul_i (i := r.h) (j := k) (by have := b.h1; omega) (by have := b.h2; omega)
    simp only [R4.d, gr, runK, sSqK, sIfK, sIfP, tOrK, tAndK, tNotK, tValK, liE, liT, liL, liI, liO, pNotT, pT, p1, p2, pK, pCons, pNil, pYes, pSeq, pAndE, pOrE, pNotE, pAndT, pOrT, pChain, pIf, pTup, pLst, pLc, pDic, pR1, pR2, sRetP, sRetK, sAsP, sAsK, sAoP, sAoK, sDrpK, sPar2K, sPar3K, sForP, sForK, sAppC, mAndK, mOrK, mNotK, mIfK, lConsK, mTupK, mLstK, mMK, m1K, m2K, mLcK, mCallP, mCallK, in_nil, in_cons, re_zero, re_succ, bk_ok, bk_dr, opK_some, opK_none, ooK_some, ooK_none, bK_t, bK_f, hd_cons, tl_cons, s0_cons, st_cons, fl_nx, fl_rt, fl_bk, fl_ct, rt_rt, rt_nx, dB_bl, dI_int, sq_tup, sq_lst, at_tup, al_nil, al_cons, nm_set, isi_tup_t, nh_int, nh_tup, nh_lst, nh_bl, nh_all_nil, nh_all_cons, ln_nil, ln_cons, lc_nil, lc_cons, lk_nil, lk_cons, fo_nil, fo_cons, all_l, any_l, allB_nil, anyB_nil, allB_cons, anyB_cons, ix_t0, ix_l0, ix_l1, ix_t1, ix_t2, ix_t3, pSl, pNo, pPart, pEnum, skip_nx, seq_k, fclk_eq, fck_eq, len_t, len_l, eq_i, ge_i, le_i, lt_i, gt_i, add_i, sub_i, int_i, chl, chle, id_eq, ble_ok, Nat.reduceAdd, List.length_cons, List.length_nil, decide_true, decide_false, Bool.not_true, Bool.not_false, Nat.zero_add, Nat.reduceLeDiff, Int.cast_ofNat_Int, g0, s0, g1, s1, g2, s2, g3, s3, g4, s4, g5, s5, g6, s6, g7, s7, g8, s8, g9, s9, g10, s10, g11, s11, g12, s12, g13, s13, g14, s14, g15, s15, g16, s16, g17, s17, g18, s18, g19, s19, g20, s20, g21, s21, g22, s22, g23, s23, g24, s24, g25, s25, g26, s26, g27, s27, g28, s28, g29, s29, g30, s30, g31, s31, g32, s32, g33, s33, g34, s34, g35, s35, g36, s36, g37, s37, g38, s38, g39, s39, m1, m2, m3, m4]
  have a3 : kB_14 (lS (some (cD c)) (some (cD (c.map tr))) (some (cD (c.map (mi W)))) (some (.int k)) (some (cD (c.map (gr k)))) none none none none (some (.int W)) (some (.int H)) none none none none none none none) = kB_15 (lS (some (cD c)) (some (cD (c.map tr))) (some (cD (c.map (mi W)))) (some (.int k)) (some (cD (c.map (gr k)))) none none none none (some (.int W)) (some (.int H)) none none none none none none none) := by
    unfold kB_14
    exact ifK_ok (callP_ok (xs := [cD (c.map (gr k))]) rfl (t21 C2 hp2)) (callP_ok (xs := [cD c]) rfl (t21 C hp1)) (eqp p)
  have f1 := t12 C2
  rw [sq_gr hk] at f1
  have f2 := t13 C2
  rw [unl_gr hk] at f2
  have a4 : kB_15 (lS (some (cD c)) (some (cD (c.map tr))) (some (cD (c.map (mi W)))) (some (.int k)) (some (cD (c.map (gr k)))) none none none none (some (.int W)) (some (.int H)) none none none none none none none) = kB_16 (lS (some (cD c)) (some (cD (c.map tr))) (some (cD (c.map (mi W)))) (some (.int k)) (some (cD (c.map (gr k)))) none none none none (some (.int W)) (some (.int H)) none none none none none none none) := by
    unfold kB_15
    exact ifK_ok (callP_ok (xs := [cD (c.map (gr k))]) rfl f1) (callP_ok (xs := [cD c]) rfl (t12 C)) (eqb _)
  have a5 : kB_16 (lS (some (cD c)) (some (cD (c.map tr))) (some (cD (c.map (mi W)))) (some (.int k)) (some (cD (c.map (gr k)))) none none none none (some (.int W)) (some (.int H)) none none none none none none none) = kB_17 (lS (some (cD c)) (some (cD (c.map tr))) (some (cD (c.map (mi W)))) (some (.int k)) (some (cD (c.map (gr k)))) none none none none (some (.int W)) (some (.int H)) none none none none none none none) := by
    unfold kB_16
    exact ifK_ok (callP_ok (xs := [cD (c.map (gr k))]) rfl f2) (callP_ok (xs := [cD c]) rfl (t13 C)) (eqb _)
  rw [a1, a2, a3, a4, a5]
end
section
variable {W H k a b : Int} {c : List R4} (C : Cut W H c) (hl : c.length ≤ 7) (hW : 1 ≤ W) (hW9 : W ≤ 9) (hH : 1 ≤ H) (hH9 : H ≤ 9) (hk : 1 ≤ k) (hk6 : k ≤ 6) (ha : 1 ≤ a) (ha4 : a ≤ 4) (hb : 1 ≤ b) (hb4 : b ≤ 4)
include C hl hW hW9 hH hH9 hk hk6 ha ha4 hb hb4
theorem segC : ∃ u8 u9 u10, kB_18 (lS (some (cD c)) (some (cD (c.map tr))) (some (cD (c.map (mi W)))) (some (.int k)) (some (cD (c.map (gr k)))) none none none none (some (.int W)) (some (.int H)) (some (.int a)) (some (.int b)) none none none none none) = kB_23 (lS (some (cD c)) (some (cD (c.map tr))) (some (cD (c.map (mi W)))) (some (.int k)) (some (cD (c.map (gr k)))) u8 u9 u10 none (some (.int W)) (some (.int H)) (some (.int a)) (some (.int b)) none none none none none) := by
  have C2 := C.grk hl hW hW9 hH hH9 hk hk6
  have a1 : kB_18 (lS (some (cD c)) (some (cD (c.map tr))) (some (cD (c.map (mi W)))) (some (.int k)) (some (cD (c.map (gr k)))) none none none none (some (.int W)) (some (.int H)) (some (.int a)) (some (.int b)) none none none none none) = kB_19 (lS (some (cD c)) (some (cD (c.map tr))) (some (cD (c.map (mi W)))) (some (.int k)) (some (cD (c.map (gr k)))) (some (.lst ((sortR gt4 (c.map (st4 a b))).map R4.d))) none none none (some (.int W)) (some (.int H)) (some (.int a)) (some (.int b)) none none none none none) := by
    unfold kB_18
    refine sq_nx (asP_ok (p1_of (pLc_of (g := R4.d) (k := R4.d) (t := st4 a b) c rfl (fun r hr => ⟨[none, some .hnd, none, some (cD c), some (cD (c.map tr)), some (cD (c.map (mi W))), some (.int k), some (cD (c.map (gr k))), none, none, none, none, some (.int W), some (.int H), some (.int a), some (.int b), none, none, none, none, none, none, some (.int r.x), some (.int r.y), some (.int r.w), some (.int r.h), none], rfl, rfl, ?_, rfl⟩) (by omega)) ((sr4l _).trans (by rw [sortd4]))) rfl)
    have p := C.pt r hr
    have m1 := mul_i (i := r.x) (j := a) (by have := p.x0; omega) (by have := p.x2; omega)
    have m2 := mul_i (i := r.y) (j := b) (by have := p.y0; omega) (by have := p.y2; omega)
    have m3 := mul_i (i := r.w) (j := a) (by have := p.w1; omega) (by have := p.w2; omega)
    have m4 := mul_i (i := r.h) (j := b) (by have := p.h1; omega) (by have := p.h2; omega)
    simp only [R4.d, st4, runK, sSqK, sIfK, sIfP, tOrK, tAndK, tNotK, tValK, liE, liT, liL, liI, liO, pNotT, pT, p1, p2, pK, pCons, pNil, pYes, pSeq, pAndE, pOrE, pNotE, pAndT, pOrT, pChain, pIf, pTup, pLst, pLc, pDic, pR1, pR2, sRetP, sRetK, sAsP, sAsK, sAoP, sAoK, sDrpK, sPar2K, sPar3K, sForP, sForK, sAppC, mAndK, mOrK, mNotK, mIfK, lConsK, mTupK, mLstK, mMK, m1K, m2K, mLcK, mCallP, mCallK, in_nil, in_cons, re_zero, re_succ, bk_ok, bk_dr, opK_some, opK_none, ooK_some, ooK_none, bK_t, bK_f, hd_cons, tl_cons, s0_cons, st_cons, fl_nx, fl_rt, fl_bk, fl_ct, rt_rt, rt_nx, dB_bl, dI_int, sq_tup, sq_lst, at_tup, al_nil, al_cons, nm_set, isi_tup_t, nh_int, nh_tup, nh_lst, nh_bl, nh_all_nil, nh_all_cons, ln_nil, ln_cons, lc_nil, lc_cons, lk_nil, lk_cons, fo_nil, fo_cons, all_l, any_l, allB_nil, anyB_nil, allB_cons, anyB_cons, ix_t0, ix_l0, ix_l1, ix_t1, ix_t2, ix_t3, pSl, pNo, pPart, pEnum, skip_nx, seq_k, fclk_eq, fck_eq, len_t, len_l, eq_i, ge_i, le_i, lt_i, gt_i, add_i, sub_i, int_i, chl, chle, id_eq, ble_ok, Nat.reduceAdd, List.length_cons, List.length_nil, decide_true, decide_false, Bool.not_true, Bool.not_false, Nat.zero_add, Nat.reduceLeDiff, Int.cast_ofNat_Int, g0, s0, g1, s1, g2, s2, g3, s3, g4, s4, g5, s5, g6, s6, g7, s7, g8, s8, g9, s9, g10, s10, g11, s11, g12, s12, g13, s13, g14, s14, g15, s15, g16, s16, g17, s17, g18, s18, g19, s19, g20, s20, g21, s21, g22, s22, g23, s23, g24, s24, g25, s25, g26, s26, g27, s27, g28, s28, g29, s29, g30, s30, g31, s31, g32, s32, g33, s33, g34, s34, g35, s35, g36, s36, g37, s37, g38, s38, g39, s39, m1, m2, m3, m4]
  have ll : (sortR gt4 (c.map (st4 a b))).length ≤ 16000000 := by rw [sortR_len, List.length_map]; omega
  have idm : ∀ l : List R4, l.map (fun r => r) = l := fun l => List.map_id l
  have a2 : kB_19 (lS (some (cD c)) (some (cD (c.map tr))) (some (cD (c.map (mi W)))) (some (.int k)) (some (cD (c.map (gr k)))) (some (.lst ((sortR gt4 (c.map (st4 a b))).map R4.d))) none none none (some (.int W)) (some (.int H)) (some (.int a)) (some (.int b)) none none none none none) = kB_20 (lS (some (cD c)) (some (cD (c.map tr))) (some (cD (c.map (mi W)))) (some (.int k)) (some (cD (c.map (gr k)))) (some (.lst ((sortR gt4 (c.map (st4 a b))).map R4.d))) (some (.lst (((sortR gt4 (c.map (st4 a b))).map fun r => r).map R4.o))) none none (some (.int W)) (some (.int H)) (some (.int a)) (some (.int b)) none none none none none) := by
    unfold kB_19
    refine sq_nx (asP_ok (pLc_of (g := R4.d) (k := R4.o) (t := fun r => r) (sortR gt4 (c.map (st4 a b))) rfl (fun r hr => ⟨[none, some .hnd, none, some (cD c), some (cD (c.map tr)), some (cD (c.map (mi W))), some (.int k), some (cD (c.map (gr k))), some (.lst ((sortR gt4 (c.map (st4 a b))).map R4.d)), none, none, none, some (.int W), some (.int H), some (.int a), some (.int b), none, none, none, none, none, some r.d, none, none, none, none, none], rfl, rfl, ?_, rfl⟩) ll) rfl)
    simp only [R4.d, R4.o, one, runK, sSqK, sIfK, sIfP, tOrK, tAndK, tNotK, tValK, liE, liT, liL, liI, liO, pNotT, pT, p1, p2, pK, pCons, pNil, pYes, pSeq, pAndE, pOrE, pNotE, pAndT, pOrT, pChain, pIf, pTup, pLst, pLc, pDic, pR1, pR2, sRetP, sRetK, sAsP, sAsK, sAoP, sAoK, sDrpK, sPar2K, sPar3K, sForP, sForK, sAppC, mAndK, mOrK, mNotK, mIfK, lConsK, mTupK, mLstK, mMK, m1K, m2K, mLcK, mCallP, mCallK, in_nil, in_cons, re_zero, re_succ, bk_ok, bk_dr, opK_some, opK_none, ooK_some, ooK_none, bK_t, bK_f, hd_cons, tl_cons, s0_cons, st_cons, fl_nx, fl_rt, fl_bk, fl_ct, rt_rt, rt_nx, dB_bl, dI_int, sq_tup, sq_lst, at_tup, al_nil, al_cons, nm_set, isi_tup_t, nh_int, nh_tup, nh_lst, nh_bl, nh_all_nil, nh_all_cons, ln_nil, ln_cons, lc_nil, lc_cons, lk_nil, lk_cons, fo_nil, fo_cons, all_l, any_l, allB_nil, anyB_nil, allB_cons, anyB_cons, ix_t0, ix_l0, ix_l1, ix_t1, ix_t2, ix_t3, pSl, pNo, pPart, pEnum, skip_nx, seq_k, fclk_eq, fck_eq, len_t, len_l, eq_i, ge_i, le_i, lt_i, gt_i, add_i, sub_i, int_i, chl, chle, id_eq, ble_ok, Nat.reduceAdd, List.length_cons, List.length_nil, decide_true, decide_false, Bool.not_true, Bool.not_false, Nat.zero_add, Nat.reduceLeDiff, Int.cast_ofNat_Int, g0, s0, g1, s1, g2, s2, g3, s3, g4, s4, g5, s5, g6, s6, g7, s7, g8, s8, g9, s9, g10, s10, g11, s11, g12, s12, g13, s13, g14, s14, g15, s15, g16, s16, g17, s17, g18, s18, g19, s19, g20, s20, g21, s21, g22, s22, g23, s23, g24, s24, g25, s25, g26, s26, g27, s27, g28, s28, g29, s29, g30, s30, g31, s31, g32, s32, g33, s33, g34, s34, g35, s35, g36, s36, g37, s37, g38, s38, g39, s39, oTuple]
  rw [idm] at a2
  have f1 := t20 C (a := a) (a2 := 1) (b := b) (b2 := 1) (m := st4 a b) ha (by omega) (by omega) hb (by omega) (by omega) fun r hr => ⟨(Int.mul_one _).symm, (Int.mul_one _).symm, (Int.mul_one _).symm, (Int.mul_one _).symm⟩
  have a3 : ∀ u8, kB_20 (lS (some (cD c)) (some (cD (c.map tr))) (some (cD (c.map (mi W)))) (some (.int k)) (some (cD (c.map (gr k)))) u8 (some (.lst ((sortR gt4 (c.map (st4 a b))).map R4.o))) none none (some (.int W)) (some (.int H)) (some (.int a)) (some (.int b)) none none none none none) = kB_21 (lS (some (cD c)) (some (cD (c.map tr))) (some (cD (c.map (mi W)))) (some (.int k)) (some (cD (c.map (gr k)))) u8 (some (.lst ((sortR gt4 (c.map (st4 a b))).map R4.o))) none none (some (.int W)) (some (.int H)) (some (.int a)) (some (.int b)) none none none none none) := fun u8 => by
    unfold kB_20
    exact ifK_ok (m1_ok (callP_ok (xs := [cD c, .tup [.int a, .int 1], .tup [.int b, .int 1]]) rfl f1) (sro _)) (liE_ok (p1_of rfl ((srol _).trans (by rw [sorto4])))) (neo _)
  have a4 : ∀ u8 u9, kB_21 (lS (some (cD c)) (some (cD (c.map tr))) (some (cD (c.map (mi W)))) (some (.int k)) (some (cD (c.map (gr k)))) u8 u9 none none (some (.int W)) (some (.int H)) (some (.int a)) (some (.int b)) none none none none none) = kB_22 (lS (some (cD c)) (some (cD (c.map tr))) (some (cD (c.map (mi W)))) (some (.int k)) (some (cD (c.map (gr k)))) u8 u9 (some (.lst ((c.map fun r => r).map R4.o))) none (some (.int W)) (some (.int H)) (some (.int a)) (some (.int b)) none none none none none) := fun u8 u9 => by
    unfold kB_21
    refine sq_nx (asP_ok (pLc_of (g := R4.d) (k := R4.o) (t := fun r => r) c rfl (fun r hr => ⟨[none, some .hnd, none, some (cD c), some (cD (c.map tr)), some (cD (c.map (mi W))), some (.int k), some (cD (c.map (gr k))), u8, u9, none, none, some (.int W), some (.int H), some (.int a), some (.int b), none, none, none, none, none, some r.d, none, none, none, none, none], rfl, rfl, ?_, rfl⟩) (by omega)) rfl)
    simp only [R4.d, R4.o, one, runK, sSqK, sIfK, sIfP, tOrK, tAndK, tNotK, tValK, liE, liT, liL, liI, liO, pNotT, pT, p1, p2, pK, pCons, pNil, pYes, pSeq, pAndE, pOrE, pNotE, pAndT, pOrT, pChain, pIf, pTup, pLst, pLc, pDic, pR1, pR2, sRetP, sRetK, sAsP, sAsK, sAoP, sAoK, sDrpK, sPar2K, sPar3K, sForP, sForK, sAppC, mAndK, mOrK, mNotK, mIfK, lConsK, mTupK, mLstK, mMK, m1K, m2K, mLcK, mCallP, mCallK, in_nil, in_cons, re_zero, re_succ, bk_ok, bk_dr, opK_some, opK_none, ooK_some, ooK_none, bK_t, bK_f, hd_cons, tl_cons, s0_cons, st_cons, fl_nx, fl_rt, fl_bk, fl_ct, rt_rt, rt_nx, dB_bl, dI_int, sq_tup, sq_lst, at_tup, al_nil, al_cons, nm_set, isi_tup_t, nh_int, nh_tup, nh_lst, nh_bl, nh_all_nil, nh_all_cons, ln_nil, ln_cons, lc_nil, lc_cons, lk_nil, lk_cons, fo_nil, fo_cons, all_l, any_l, allB_nil, anyB_nil, allB_cons, anyB_cons, ix_t0, ix_l0, ix_l1, ix_t1, ix_t2, ix_t3, pSl, pNo, pPart, pEnum, skip_nx, seq_k, fclk_eq, fck_eq, len_t, len_l, eq_i, ge_i, le_i, lt_i, gt_i, add_i, sub_i, int_i, chl, chle, id_eq, ble_ok, Nat.reduceAdd, List.length_cons, List.length_nil, decide_true, decide_false, Bool.not_true, Bool.not_false, Nat.zero_add, Nat.reduceLeDiff, Int.cast_ofNat_Int, g0, s0, g1, s1, g2, s2, g3, s3, g4, s4, g5, s5, g6, s6, g7, s7, g8, s8, g9, s9, g10, s10, g11, s11, g12, s12, g13, s13, g14, s14, g15, s15, g16, s16, g17, s17, g18, s18, g19, s19, g20, s20, g21, s21, g22, s22, g23, s23, g24, s24, g25, s25, g26, s26, g27, s27, g28, s28, g29, s29, g30, s30, g31, s31, g32, s32, g33, s33, g34, s34, g35, s35, g36, s36, g37, s37, g38, s38, g39, s39, oTuple]
  rw [idm] at a4
  have f2 := t20 C2 (a := 1) (a2 := k) (b := 1) (b2 := k) (m := un k) (by omega) hk (by omega) (by omega) hk (by omega) fun r hr => by
    obtain ⟨q, hq, rfl⟩ := List.mem_map.mp hr
    rw [un_gr hk]
    exact ⟨Int.mul_one _, Int.mul_one _, Int.mul_one _, Int.mul_one _⟩
  have e3 : (c.map (gr k)).map (un k) = c := by rw [map_map2, show (fun r => un k (gr k r)) = id from funext (un_gr hk), List.map_id]
  rw [e3] at f2
  have a5 : ∀ u8 u9, kB_22 (lS (some (cD c)) (some (cD (c.map tr))) (some (cD (c.map (mi W)))) (some (.int k)) (some (cD (c.map (gr k)))) u8 u9 (some (.lst (c.map R4.o))) none (some (.int W)) (some (.int H)) (some (.int a)) (some (.int b)) none none none none none) = kB_23 (lS (some (cD c)) (some (cD (c.map tr))) (some (cD (c.map (mi W)))) (some (.int k)) (some (cD (c.map (gr k)))) u8 u9 (some (.lst (c.map R4.o))) none (some (.int W)) (some (.int H)) (some (.int a)) (some (.int b)) none none none none none) := fun u8 u9 => by
    unfold kB_22
    exact ifK_ok (m1_ok (callP_ok (xs := [cD (c.map (gr k)), .tup [.int 1, .int k], .tup [.int 1, .int k]]) rfl f2) (sro _)) (liE_ok (p1_of rfl (srol _))) (neo _)
  exact ⟨_, _, _, by rw [a1, a2, a3, a4, a5]⟩
end
end EV
set_option maxHeartbeats 0
namespace EV
open PySem PySem.Spec PyProof.Rows L2 RZ
theorem dok_ints (l : List Int) : ∀ x ∈ l.map D.int, dok 59 x = true := dok_m (fun _ => rfl) l
theorem nei (l : List Int) : oEqFK (fun b => !b) (.lst (l.map D.int)) (.lst (l.map D.int)) = some (.bl false) := eq_same (dok_l (dok_ints l))
theorem in_ok {i : Int} {l : List Int} (h : i ∈ l) : oInK (fun b => !b) (.int i) (.lst (l.map D.int)) = some (.bl false) := by
  show bK (bK (dokK 60 (.int i)) (allK (dokK 60) (l.map D.int)) false) (some (D.bl (!(memK (.int i) (l.map D.int))))) none = _
  have a : allK (dokK 60) (l.map D.int) = true := by
    rw [allK_eq, List.all_eq_true]
    intro x hx
    obtain ⟨j, _, rfl⟩ := List.mem_map.mp hx
    rfl
  rw [a, memK_int h]
  rfl
noncomputable abbrev bq1 : MS := sAsK (aNm s16) (mCallP F18 (pCons g3 (pCons g11 pNil)))
noncomputable abbrev bq : MS := (sSqK (sAsK (aNm s16) (mCallP F18 (pCons g3 (pCons g11 pNil)))) (sSqK (sAsP (aNm s17) (pIf (pT g11) (pTup (pCons g12 (pCons (pK (.int 0)) (pCons g13 (pCons g13 pNil))))) (pTup (pCons (pK (.int 0)) (pCons g13 (pCons g12 (pCons g12 pNil))))))) (sSqK (sIfP (pT (p2 (oEqFK (fun b => !b)) (p1 oSortK g16) (p1 oSortK (p2 oAddK g3 (pTup (pCons g17 pNil)))))) (sSqK (sRetP (pK (.bl false))) sSkip) sSkip) (sSqK (sAsP (aNm s18) (pIf (pT g11) g12 g13)) (sSqK (sIfK (tValK (m2K (oInK (fun b => !b)) (liE g18) (m1K oList (m2K oIxK (mCallP F14 (pCons g16 pNil)) (liE (pIf (pT g11) (pK (.int 1)) (pK (.int 0)))))))) (sSqK (sRetP (pK (.bl false))) sSkip) sSkip) sSkip)))))
theorem p2_of {f : D → D → Option D} {x y : PX} {st : AS} {d e v : D} (h : x st = some d) (h2 : y st = some e) (hf : f d e = some v) : p2 f x y st = some v := by
  unfold p2
  rw [h, ooK_some, h2, ooK_some, hf]
theorem iA (x y : D) : oIxK (.tup [x, y]) (.int 1) = some y := rfl
theorem iB (x y : D) : oIxK (.tup [x, y]) (.int 0) = some x := rfl
theorem oLi (xs : List D) : oList (.lst xs) = some (.lst xs) := rfl
section
variable {W H : Int} {c : List R4} (C : Cut W H c) (hl : c.length ≤ 7) (hW9 : W ≤ 9) (hH9 : H ≤ 9)
include C hl hW9 hH9
theorem bq_t (v4 v5 v6 v7 v8 v9 v10 v14 v15 v16 v17 v18 : Option D) : ∃ u16 u17 u18, bq (lS (some (cD c)) v4 v5 v6 v7 v8 v9 v10 (some (.bl true)) (some (.int W)) (some (.int H)) v14 v15 v16 v17 v18 none none) = .ok (.nx (lS (some (cD c)) v4 v5 v6 v7 v8 v9 v10 (some (.bl true)) (some (.int W)) (some (.int H)) v14 v15 u16 u17 u18 none none)) := by
  have C2 := C.sqt (by omega) (by omega)
  refine ⟨some (cD (c ++ [sq W H true])), some (sq W H true).d, some (.int W), ?_⟩
  unfold bq
  rw [sq_nx (asK_ok (callP_ok (xs := [cD c, .bl true]) rfl (t18t C)) rfl), sq_nx (asP_ok (d := (sq W H true).d) rfl rfl), ifP_ok (p1_of rfl (sr4 _)) (p1_of (p2_of rfl rfl (addT c (sq W H true) (by omega))) (sr4 _)) (ne4 _), sq_nx (asP_ok (d := .int W) rfl rfl), ifK_ok (liE_ok rfl) (m1_ok (m2_ok (callP_ok (xs := [cD (c ++ [sq W H true])]) rfl (t14 C2)) (liE_ok (d := .int 1) rfl) (iA _ _)) (oLi _)) (in_ok (upr_sq C))]
  rfl
theorem bq_f (v4 v5 v6 v7 v8 v9 v10 v14 v15 v16 v17 v18 : Option D) : ∃ u16 u17 u18, bq (lS (some (cD c)) v4 v5 v6 v7 v8 v9 v10 (some (.bl false)) (some (.int W)) (some (.int H)) v14 v15 v16 v17 v18 none none) = .ok (.nx (lS (some (cD c)) v4 v5 v6 v7 v8 v9 v10 (some (.bl false)) (some (.int W)) (some (.int H)) v14 v15 u16 u17 u18 none none)) := by
  have C2 := C.sqf (by omega) (by omega)
  refine ⟨some (cD (c ++ [sq W H false])), some (sq W H false).d, some (.int H), ?_⟩
  unfold bq
  rw [sq_nx (asK_ok (callP_ok (xs := [cD c, .bl false]) rfl (t18f C)) rfl), sq_nx (asP_ok (d := (sq W H false).d) rfl rfl), ifP_ok (p1_of rfl (sr4 _)) (p1_of (p2_of rfl rfl (addT c (sq W H false) (by omega))) (sr4 _)) (ne4 _), sq_nx (asP_ok (d := .int H) rfl rfl), ifK_ok (liE_ok rfl) (m1_ok (m2_ok (callP_ok (xs := [cD (c ++ [sq W H false])]) rfl (t14 C2)) (liE_ok (d := .int 0) rfl) (iB _ _)) (oLi _)) (in_ok (lev_sq C))]
  rfl
theorem segD (v5 v6 v7 v8 v9 v10 v14 v15 : Option D) : ∃ u11 u16 u17 u18, kB_23 (lS (some (cD c)) (some (cD (c.map tr))) v5 v6 v7 v8 v9 v10 none (some (.int W)) (some (.int H)) v14 v15 none none none none none) = kB_24 (lS (some (cD c)) (some (cD (c.map tr))) v5 v6 v7 v8 v9 v10 u11 (some (.int W)) (some (.int H)) v14 v15 u16 u17 u18 none none) := by
  obtain ⟨x16, x17, x18, e1⟩ := bq_t C hl hW9 hH9 (some (cD (c.map tr))) v5 v6 v7 v8 v9 v10 v14 v15 none none none
  obtain ⟨u16, u17, u18, e2⟩ := bq_f C hl hW9 hH9 (some (cD (c.map tr))) v5 v6 v7 v8 v9 v10 v14 v15 x16 x17 x18
  refine ⟨some (.bl false), u16, u17, u18, ?_⟩
  have e : forK (aNm s11) bq [.bl true, .bl false] (lS (some (cD c)) (some (cD (c.map tr))) v5 v6 v7 v8 v9 v10 none (some (.int W)) (some (.int H)) v14 v15 none none none none none) = .ok (.nx (lS (some (cD c)) (some (cD (c.map tr))) v5 v6 v7 v8 v9 v10 (some (.bl false)) (some (.int W)) (some (.int H)) v14 v15 u16 u17 u18 none none)) := by
    rw [fo_cons]
    show bindK (bq (lS (some (cD c)) (some (cD (c.map tr))) v5 v6 v7 v8 v9 v10 (some (.bl true)) (some (.int W)) (some (.int H)) v14 v15 none none none none none)) _ = _
    rw [e1, bk_ok, fl_nx, fo_cons]
    show bindK (bq (lS (some (cD c)) (some (cD (c.map tr))) v5 v6 v7 v8 v9 v10 (some (.bl false)) (some (.int W)) (some (.int H)) v14 v15 x16 x17 x18 none none)) _ = _
    rw [e2, bk_ok, fl_nx, fo_nil]
  unfold kB_23
  exact sq_nx e
theorem segE (v5 v6 v7 v8 v9 v10 v11 v14 v15 v16 v17 v18 : Option D) : ∃ u19 u20, kB_24 (lS (some (cD c)) (some (cD (c.map tr))) v5 v6 v7 v8 v9 v10 v11 (some (.int W)) (some (.int H)) v14 v15 v16 v17 v18 none none) = .ok (.nx (lS (some (cD c)) (some (cD (c.map tr))) v5 v6 v7 v8 v9 v10 v11 (some (.int W)) (some (.int H)) v14 v15 v16 v17 v18 u19 u20)) := by
  have f := t14 C.tr
  rw [lev_tr, upr_tr] at f
  refine ⟨some (.lst ((lev c H).map D.int)), some (.lst ((upr c W).map D.int)), ?_⟩
  have a1 : (mLcK (sSeq (mCallP F14 (pCons g3 pNil))) (aNm s21) (fun st => s21 none (id st)) (liT pYes) (liE (p1 oList g21))) (lS (some (cD c)) (some (cD (c.map tr))) v5 v6 v7 v8 v9 v10 v11 (some (.int W)) (some (.int H)) v14 v15 v16 v17 v18 none none) = .ok (.lst [.lst ((lev c H).map D.int), .lst ((upr c W).map D.int)], lS (some (cD c)) (some (cD (c.map tr))) v5 v6 v7 v8 v9 v10 v11 (some (.int W)) (some (.int H)) v14 v15 v16 v17 v18 none none) := by
    unfold mLcK
    rw [seq_k, callP_ok (xs := [cD c]) rfl (t14 C)]
    rfl
  unfold kB_24
  rw [sq_nx (asK_ok a1 rfl)]
  unfold kB_25
  rw [ifK_ok (liE_ok rfl) (m1_ok (m2_ok (callP_ok (xs := [cD (c.map tr)]) rfl f) (liE_ok (d := .int 1) rfl) (iA _ _)) (oLi _)) (nei _)]
  unfold kB_26
  rw [ifK_ok (liE_ok rfl) (m1_ok (m2_ok (callP_ok (xs := [cD (c.map tr)]) rfl f) (liE_ok (d := .int 0) rfl) (iB _ _)) (oLi _)) (nei _)]
  rfl
end
end EV
set_option maxHeartbeats 0
namespace EV
open PySem PySem.Spec PyProof.Rows L2 RZ
theorem k17_ok {W H k : Int} {c : List R4} (C : Cut W H c) (hl : c.length ≤ 7) (hW : 1 ≤ W) (hW9 : W ≤ 9) (hH : 1 ≤ H) (hH9 : H ≤ 9) (hk : 1 ≤ k) (hk6 : k ≤ 6) : (kB_17 (lS (some (cD c)) (some (cD (c.map tr))) (some (cD (c.map (mi W)))) (some (.int k)) (some (cD (c.map (gr k)))) none none none none (some (.int W)) (some (.int H)) none none none none none none none)).all fun fl => okFl 27 fl = true := by
  unfold kB_17
  refine all_sq ?_
  simp only [runK, sSqK, sIfK, sIfP, tOrK, tAndK, tNotK, tValK, liE, liT, liL, liI, liO, pNotT, pT, p1, p2, pK, pCons, pNil, pYes, pSeq, pAndE, pOrE, pNotE, pAndT, pOrT, pChain, pIf, pTup, pLst, pLc, pDic, pR1, pR2, sRetP, sRetK, sAsP, sAsK, sAoP, sAoK, sDrpK, sPar2K, sPar3K, sForP, sForK, sAppC, mAndK, mOrK, mNotK, mIfK, lConsK, mTupK, mLstK, mMK, m1K, m2K, mLcK, mCallP, mCallK, in_nil, in_cons, re_zero, re_succ, bk_ok, bk_dr, opK_some, opK_none, ooK_some, ooK_none, bK_t, bK_f, hd_cons, tl_cons, s0_cons, st_cons, fl_nx, fl_rt, fl_bk, fl_ct, rt_rt, rt_nx, dB_bl, dI_int, sq_tup, sq_lst, at_tup, al_nil, al_cons, nm_set, isi_tup_t, nh_int, nh_tup, nh_lst, nh_bl, nh_all_nil, nh_all_cons, ln_nil, ln_cons, lc_nil, lc_cons, lk_nil, lk_cons, fo_nil, fo_cons, all_l, any_l, allB_nil, anyB_nil, allB_cons, anyB_cons, ix_t0, ix_l0, ix_l1, ix_t1, ix_t2, ix_t3, pSl, pNo, pPart, pEnum, skip_nx, seq_k, fclk_eq, fck_eq, len_t, len_l, eq_i, ge_i, le_i, lt_i, gt_i, add_i, sub_i, int_i, chl, chle, id_eq, ble_ok, Nat.reduceAdd, List.length_cons, List.length_nil, decide_true, decide_false, Bool.not_true, Bool.not_false, Nat.zero_add, Nat.reduceLeDiff, Int.cast_ofNat_Int, g0, s0, g1, s1, g2, s2, g3, s3, g4, s4, g5, s5, g6, s6, g7, s7, g8, s8, g9, s9, g10, s10, g11, s11, g12, s12, g13, s13, g14, s14, g15, s15, g16, s16, g17, s17, g18, s18, g19, s19, g20, s20, g21, s21, g22, s22, g23, s23, g24, s24, g25, s25, g26, s26, g27, s27, g28, s28, g29, s29, g30, s30, g31, s31, g32, s32, g33, s33, g34, s34, g35, s35, g36, s36, g37, s37, g38, s38, g39, s39, dr22 (show (0 : Int) < 4 by decide) (by decide)]
  intro d hd e he
  have hd : d < 4 := hd
  have he : e < 4 := he
  refine ⟨_, rfl, ?_⟩
  obtain ⟨u8, u9, u10, e1⟩ := segC (a := 1 + (d : Int)) (b := 1 + (e : Int)) C hl hW hW9 hH hH9 hk hk6 (by omega) (by omega) (by omega) (by omega)
  obtain ⟨u11, u16, u17, u18, e2⟩ := segD C hl hW9 hH9 (some (cD (c.map (mi W)))) (some (.int k)) (some (cD (c.map (gr k)))) u8 u9 u10 (some (.int (1 + (d : Int)))) (some (.int (1 + (e : Int))))
  obtain ⟨u19, u20, e3⟩ := segE C hl hW9 hH9 (some (cD (c.map (mi W)))) (some (.int k)) (some (cD (c.map (gr k)))) u8 u9 u10 u11 (some (.int (1 + (d : Int)))) (some (.int (1 + (e : Int)))) u16 u17 u18
  have e4 := e1.trans (e2.trans e3)
  refine cast (congrArg (fun r => R.all r fun fl => okFl 27 fl = true) e4.symm) ?_
  rfl
theorem k11_ok {W H : Int} {c : List R4} (C : Cut W H c) (hl : c.length ≤ 7) (hW : 1 ≤ W) (hW9 : W ≤ 9) (hH : 1 ≤ H) (hH9 : H ≤ 9) : (kB_11 (lS (some (cD c)) (some (cD (c.map tr))) (some (cD (c.map (mi W)))) none none none none none none (some (.int W)) (some (.int H)) none none none none none none none)).all fun fl => okFl 27 fl = true := by
  unfold kB_11
  refine all_sq ?_
  simp only [runK, sSqK, sIfK, sIfP, tOrK, tAndK, tNotK, tValK, liE, liT, liL, liI, liO, pNotT, pT, p1, p2, pK, pCons, pNil, pYes, pSeq, pAndE, pOrE, pNotE, pAndT, pOrT, pChain, pIf, pTup, pLst, pLc, pDic, pR1, pR2, sRetP, sRetK, sAsP, sAsK, sAoP, sAoK, sDrpK, sPar2K, sPar3K, sForP, sForK, sAppC, mAndK, mOrK, mNotK, mIfK, lConsK, mTupK, mLstK, mMK, m1K, m2K, mLcK, mCallP, mCallK, in_nil, in_cons, re_zero, re_succ, bk_ok, bk_dr, opK_some, opK_none, ooK_some, ooK_none, bK_t, bK_f, hd_cons, tl_cons, s0_cons, st_cons, fl_nx, fl_rt, fl_bk, fl_ct, rt_rt, rt_nx, dB_bl, dI_int, sq_tup, sq_lst, at_tup, al_nil, al_cons, nm_set, isi_tup_t, nh_int, nh_tup, nh_lst, nh_bl, nh_all_nil, nh_all_cons, ln_nil, ln_cons, lc_nil, lc_cons, lk_nil, lk_cons, fo_nil, fo_cons, all_l, any_l, allB_nil, anyB_nil, allB_cons, anyB_cons, ix_t0, ix_l0, ix_l1, ix_t1, ix_t2, ix_t3, pSl, pNo, pPart, pEnum, skip_nx, seq_k, fclk_eq, fck_eq, len_t, len_l, eq_i, ge_i, le_i, lt_i, gt_i, add_i, sub_i, int_i, chl, chle, id_eq, ble_ok, Nat.reduceAdd, List.length_cons, List.length_nil, decide_true, decide_false, Bool.not_true, Bool.not_false, Nat.zero_add, Nat.reduceLeDiff, Int.cast_ofNat_Int, g0, s0, g1, s1, g2, s2, g3, s3, g4, s4, g5, s5, g6, s6, g7, s7, g8, s8, g9, s9, g10, s10, g11, s11, g12, s12, g13, s13, g14, s14, g15, s15, g16, s16, g17, s17, g18, s18, g19, s19, g20, s20, g21, s21, g22, s22, g23, s23, g24, s24, g25, s25, g26, s26, g27, s27, g28, s28, g29, s29, g30, s30, g31, s31, g32, s32, g33, s33, g34, s34, g35, s35, g36, s36, g37, s37, g38, s38, g39, s39, dr22 (show (0 : Int) < 6 by decide) (by decide)]
  intro d hd
  have hd : d < 6 := hd
  refine ⟨_, rfl, ?_⟩
  have e1 := segB (k := 1 + (d : Int)) C hl hW hW9 hH hH9 (by omega) (by omega)
  refine cast (congrArg (fun r => R.all r fun fl => okFl 27 fl = true) e1.symm) ?_
  exact k17_ok C hl hW hW9 hH hH9 (by omega) (by omega)
theorem k1_ok {W H : Int} (hW : 1 ≤ W) (hW9 : W ≤ 9) (hH : 1 ≤ H) (hH9 : H ≤ 9) : (kB_1 (lS none none none none none none none none none (some (.int W)) (some (.int H)) none none none none none none none)).all fun fl => okFl 27 fl = true := by
  unfold kB_1
  refine all_sq (asK_call (xs := [.hnd, .int W, .int H, .int 7]) rfl (t23 hW hH (by omega) (by omega)) fun r hr => ?_)
  obtain ⟨c, rfl, C, hl⟩ := hr
  refine ⟨_, rfl, _, rfl, ?_⟩
  refine cast (congrArg (fun r => R.all r fun fl => okFl 27 fl = true) ((segA1 C hl hW hW9 hH hH9).trans (segA2 C hl hW hW9 hH hH9)).symm) ?_
  exact k11_ok C hl hW hW9 hH hH9
theorem turn_ok : (kB (st1 27)).all fun fl => okFl 27 fl = true := by
  have e : st1 27 = lS none none none none none none none none none none none none none none none none none none := rfl
  rw [e]
  unfold kB
  refine all_sq ?_
  simp only [runK, sSqK, sIfK, sIfP, tOrK, tAndK, tNotK, tValK, liE, liT, liL, liI, liO, pNotT, pT, p1, p2, pK, pCons, pNil, pYes, pSeq, pAndE, pOrE, pNotE, pAndT, pOrT, pChain, pIf, pTup, pLst, pLc, pDic, pR1, pR2, sRetP, sRetK, sAsP, sAsK, sAoP, sAoK, sDrpK, sPar2K, sPar3K, sForP, sForK, sAppC, mAndK, mOrK, mNotK, mIfK, lConsK, mTupK, mLstK, mMK, m1K, m2K, mLcK, mCallP, mCallK, in_nil, in_cons, re_zero, re_succ, bk_ok, bk_dr, opK_some, opK_none, ooK_some, ooK_none, bK_t, bK_f, hd_cons, tl_cons, s0_cons, st_cons, fl_nx, fl_rt, fl_bk, fl_ct, rt_rt, rt_nx, dB_bl, dI_int, sq_tup, sq_lst, at_tup, al_nil, al_cons, nm_set, isi_tup_t, nh_int, nh_tup, nh_lst, nh_bl, nh_all_nil, nh_all_cons, ln_nil, ln_cons, lc_nil, lc_cons, lk_nil, lk_cons, fo_nil, fo_cons, all_l, any_l, allB_nil, anyB_nil, allB_cons, anyB_cons, ix_t0, ix_l0, ix_l1, ix_t1, ix_t2, ix_t3, pSl, pNo, pPart, pEnum, skip_nx, seq_k, fclk_eq, fck_eq, len_t, len_l, eq_i, ge_i, le_i, lt_i, gt_i, add_i, sub_i, int_i, chl, chle, id_eq, ble_ok, Nat.reduceAdd, List.length_cons, List.length_nil, decide_true, decide_false, Bool.not_true, Bool.not_false, Nat.zero_add, Nat.reduceLeDiff, Int.cast_ofNat_Int, g0, s0, g1, s1, g2, s2, g3, s3, g4, s4, g5, s5, g6, s6, g7, s7, g8, s8, g9, s9, g10, s10, g11, s11, g12, s12, g13, s13, g14, s14, g15, s15, g16, s16, g17, s17, g18, s18, g19, s19, g20, s20, g21, s21, g22, s22, g23, s23, g24, s24, g25, s25, g26, s26, g27, s27, g28, s28, g29, s29, g30, s30, g31, s31, g32, s32, g33, s33, g34, s34, g35, s35, g36, s36, g37, s37, g38, s38, g39, s39, dr22 (show (0 : Int) < 9 by decide) (by decide)]
  intro d hd e he
  have hd : d < 9 := hd
  have he : e < 9 := he
  refine ⟨_, rfl, ?_⟩
  exact k1_ok (by omega) (by omega) (by omega) (by omega)
end EV
set_option maxHeartbeats 0
namespace EV
open PySem PySem.Spec PyProof.Rows L2
theorem preS : (kPre (st1 27)).allb (okNx 27) = true := by decide +kernel
theorem endS : (kE (st1 27)).allb okRt = true := by decide +kernel
theorem semL : Gives ((den (callF FL κL prL 7) κL lawC).M (st1 lawG.N.length)) := by
  constructor
  rw [show lawG.N.length = 27 from rfl, eLaw _ (fe12 7 (by decide)) (fe13 7 (by decide)) (fe14 7 (by decide)) (fe15 7 (by decide)) (fe16 7 (by decide)) (fe17 7 (by decide)) (fe18 7 (by decide)) (fe19 7 (by decide)) (fe20 7 (by decide)) (fe21 7 (by decide)) (fe22 7 (by decide)) (fe23 7 (by decide)) (fe24 7 (by decide))]
  exact split_all preS (loop_all (by decide) (by decide) (by decide +kernel) turn_ok (rt_all endS))
theorem sc0 : FnScope fd0.N ["one", "other"] (defScope (topS 7)) := sc_by (by decide +kernel)
theorem sc1 : FnScope fd1.N ["top", "bottom"] (defScope (topS 8)) := sc_by (by decide +kernel)
theorem sc2 : FnScope fd2.N ["one", "other"] (defScope (topS 9)) := sc_by (by decide +kernel)
theorem sc3 : FnScope fd3.N ["one", "other"] (defScope (topS 10)) := sc_by (by decide +kernel)
theorem sc4 : FnScope fd4.N ["thing"] (defScope (topS 12)) := sc_by (by decide +kernel)
theorem sc5 : FnScope fd5.N ["thing", "low", "high"] (defScope (topS 13)) := sc_by (by decide +kernel)
theorem sc6 : FnScope fd6.N ["thing"] (defScope (topS 14)) := sc_by (by decide +kernel)
theorem sc7 : FnScope fd7.N ["cut"] (defScope (topS 18)) := sc_by (by decide +kernel)
theorem sc8 : FnScope fd8.N ["cut"] (defScope (topS 19)) := sc_by (by decide +kernel)
theorem sc9 : FnScope fd9.N ["one", "other"] (defScope (topS 20)) := sc_by (by decide +kernel)
theorem sc10 : FnScope fd10.N ["thing"] (defScope (topS 21)) := sc_by (by decide +kernel)
theorem sc11 : FnScope fd11.N ["cut"] (defScope (topS 22)) := sc_by (by decide +kernel)
theorem sc12 : FnScope fd12.N ["cut"] (defScope (topS 23)) := sc_by (by decide +kernel)
theorem sc13 : FnScope fd13.N ["cut"] (defScope (topS 24)) := sc_by (by decide +kernel)
theorem sc14 : FnScope fd14.N ["cut"] (defScope (topS 25)) := sc_by (by decide +kernel)
theorem sc15 : FnScope fd15.N ["cut"] (defScope (topS 26)) := sc_by (by decide +kernel)
theorem sc16 : FnScope fd16.N ["cut"] (defScope (topS 27)) := sc_by (by decide +kernel)
theorem sc17 : FnScope fd17.N ["cut", "number"] (defScope (topS 28)) := sc_by (by decide +kernel)
theorem sc18 : FnScope fd18.N ["cut", "at_right"] (defScope (topS 29)) := sc_by (by decide +kernel)
theorem sc19 : FnScope fd19.N ["cut"] (defScope (topS 30)) := sc_by (by decide +kernel)
theorem sc20 : FnScope fd20.N ["cut", "across", "down"] (defScope (topS 31)) := sc_by (by decide +kernel)
theorem sc21 : FnScope fd21.N ["cut"] (defScope (topS 32)) := sc_by (by decide +kernel)
theorem sc23 : FnScope fd23.N ["hand", "wide", "high", "most"] (defScope (topS 36)) := sc_by (by decide +kernel)
theorem sc24 : FnScope fd24.N ["top", "bottom"] (defScope (topS 37)) := sc_by (by decide +kernel)
theorem scL : FnScope lawG.N ["script"] (defScope (topS 38)) := sc_by (by decide +kernel)
theorem hF {P : Program} {w : World} {K : PySem.W.Frag} {mg : Str → Option Value} (mg0 : ∀ x ∈ blts, mg x = none) (d0 : DF K mg "common_divisor" (topS 7) ["one", "other"]) (d1 : DF K mg "fraction" (topS 8) ["top", "bottom"]) (d2 : DF K mg "times" (topS 9) ["one", "other"]) (d3 : DF K mg "over" (topS 10) ["one", "other"]) (d4 : DF K mg "is_integer" (topS 12) ["thing"]) (d5 : DF K mg "is_within" (topS 13) ["thing", "low", "high"]) (d6 : DF K mg "is_row" (topS 14) ["thing"]) (d7 : DF K mg "check_cut" (topS 18) ["cut"]) (d8 : DF K mg "frame" (topS 19) ["cut"]) (d9 : DF K mg "do_meet" (topS 20) ["one", "other"]) (d10 : DF K mg "is_cut" (topS 21) ["thing"]) (d11 : DF K mg "check_whole" (topS 22) ["cut"]) (d12 : DF K mg "are_squares" (topS 23) ["cut"]) (d13 : DF K mg "are_unlike" (topS 24) ["cut"]) (d14 : DF K mg "cuts_through" (topS 25) ["cut"]) (d15 : DF K mg "mirrored" (topS 26) ["cut"]) (d16 : DF K mg "turned" (topS 27) ["cut"]) (d17 : DF K mg "grown" (topS 28) ["cut", "number"]) (d18 : DF K mg "with_square" (topS 29) ["cut", "at_right"]) (d19 : DF K mg "shares_of" (topS 30) ["cut"]) (d20 : DF K mg "stretched" (topS 31) ["cut", "across", "down"]) (d21 : DF K mg "ratio" (topS 32) ["cut"]) (d22 : DF K mg "_law_draw" (topS 35) ["hand", "many"]) (d23 : DF K mg "_law_cut" (topS 36) ["hand", "wide", "high", "most"]) (d24 : DF K mg "_law_low" (topS 37) ["top", "bottom"]) :
    ∀ base : Heap, ∀ j fd, FL[j]? = some fd → FnF P w K mg base FL consL (prL j) fd := by
  intro base j fd e
  match j, e with
  | 0, e => cases e; exact fnf_mk d0 rfl sc0 (mu_ok (by decide +kernel)) c0
  | 1, e => cases e; exact fnf_mk d1 rfl sc1 (mu_ok (by decide +kernel)) c1
  | 2, e => cases e; exact fnf_mk d2 rfl sc2 (mu_ok (by decide +kernel)) c2
  | 3, e => cases e; exact fnf_mk d3 rfl sc3 (mu_ok (by decide +kernel)) c3
  | 4, e => cases e; exact fnf_mk d4 rfl sc4 (mu_ok (by decide +kernel)) c4
  | 5, e => cases e; exact fnf_mk d5 rfl sc5 (mu_ok (by decide +kernel)) c5
  | 6, e => cases e; exact fnf_mk d6 rfl sc6 (mu_ok (by decide +kernel)) c6
  | 7, e => cases e; exact fnf_mk d7 rfl sc7 (mu_ok (by decide +kernel)) c7
  | 8, e => cases e; exact fnf_mk d8 rfl sc8 (mu_ok (by decide +kernel)) c8
  | 9, e => cases e; exact fnf_mk d9 rfl sc9 (mu_ok (by decide +kernel)) c9
  | 10, e => cases e; exact fnf_mk d10 rfl sc10 (mu_ok (by decide +kernel)) c10
  | 11, e => cases e; exact fnf_mk d11 rfl sc11 (mu_ok (by decide +kernel)) c11
  | 12, e => cases e; exact fnf_mk d12 rfl sc12 (mu_ok (by decide +kernel)) c12
  | 13, e => cases e; exact fnf_mk d13 rfl sc13 (mu_ok (by decide +kernel)) c13
  | 14, e => cases e; exact fnf_mk d14 rfl sc14 (mu_ok (by decide +kernel)) c14
  | 15, e => cases e; exact fnf_mk d15 rfl sc15 (mu_ok (by decide +kernel)) c15
  | 16, e => cases e; exact fnf_mk d16 rfl sc16 (mu_ok (by decide +kernel)) c16
  | 17, e => cases e; exact fnf_mk d17 rfl sc17 (mu_ok (by decide +kernel)) c17
  | 18, e => cases e; exact fnf_mk d18 rfl sc18 (mu_ok (by decide +kernel)) c18
  | 19, e => cases e; exact fnf_mk d19 rfl sc19 (mu_ok (by decide +kernel)) c19
  | 20, e => cases e; exact fnf_mk d20 rfl sc20 (mu_ok (by decide +kernel)) c20
  | 21, e => cases e; exact fnf_mk d21 rfl sc21 (mu_ok (by decide +kernel)) c21
  | 22, e =>
    cases e
    obtain ⟨f, fdd, Fu, b, hm, _⟩ := d22.ex
    exact ⟨sDraw, f, fdd, ["hand", "many"], Fu, b, hm, rfl, ok_draw Fu fun x h => mg0 x (blt_mem h)⟩
  | 23, e => cases e; exact fnf_mk d23 rfl sc23 (mu_ok (by decide +kernel)) c23
  | 24, e => cases e; exact fnf_mk d24 rfl sc24 (mu_ok (by decide +kernel)) c24
  | j + 25, e => exact nomatch e
theorem conL {K : PySem.W.Frag} {mg : Str → Option Value} (k0 : ∃ t, mg "MOST_SIDE" = some (.int 200 t)) (k1 : ∃ t, mg "MOST_PARTS" = some (.int 24 t)) : ∀ j x, consL[j]? = some x → ∃ u v, mg x = some u ∧ RelV v u ∧ ∀ H F, Sh K H F v (κL j) := by
  intro j x e
  match j, e with
  | 0, e =>
    cases e
    obtain ⟨t, h⟩ := k0
    exact ⟨_, .int 200, h, ⟨t, rfl⟩, fun _ _ => .int _⟩
  | 1, e =>
    cases e
    obtain ⟨t, h⟩ := k1
    exact ⟨_, .int 24, h, ⟨t, rfl⟩, fun _ _ => .int _⟩
  | j + 2, e => exact nomatch e
theorem bodyL : defBody (topS 38) = .Assign [.Name "hand" ⟨165, 4, 165, 8⟩] (.Call (.Name "_law_hand" ⟨165, 11, 165, 20⟩) [.Name "script" ⟨165, 21, 165, 27⟩] [] ⟨165, 11, 165, 28⟩) ⟨165, 4, 165, 28⟩ :: (defBody (topS 38)).tail := by kernel_rfl
theorem vL : visB (defScope (topS 38)) "script" = true := by decide +kernel
theorem oL : locB (defScope (topS 38)) (fun _ => true) "hand" = true := by decide +kernel
theorem gL : glB (defScope (topS 38)) "_law_hand" = true := by decide +kernel
theorem allL {l : PySem.W.OpenLaw} {w : World} {K : PySem.W.Frag} {mg : Str → Option Value} {fa : Addr} (hfa : mg "law" = some (.ref fa)) (mg0 : ∀ x ∈ blts, mg x = none) (con : ∀ j x, consL[j]? = some x → ∃ u v, mg x = some u ∧ RelV v u ∧ ∀ H F, Sh K H F v (κL j)) (DL : DF K mg "law" (topS 38) ["script"]) (DH : DF K mg "_law_hand" sHand ["script"])
    (hF : ∀ base : Heap, ∀ j fd, FL[j]? = some fd → FnF l.prog w K mg base FL consL (prL j) fd) :
    ∃ fd : FuncData, (∀ (s : Shared) (v : Value), BindsTo s fd ⟨[v], []⟩ [("script", v)]) ∧ ∀ base : Heap, K.In base → base.Ns mainGlobals mg → FnOk l.prog w K mg base L2.CX0 8 fa fd ["script"] (spLaw K) :=
  law_all (Γ := lawG) (n := 6) (c := lawC) (rest := (defBody (topS 38)).tail) hfa rfl mg0 con DL DH hF scL bodyL rfl rfl vL oL gL rfl cL semL
end EV
open PySem PySem.W PyProof.Rows
set_option maxHeartbeats 0 in
theorem PySem.Challenge.cw_tiledwhole_k49_whole_cuts_turned_and_gro_holds : PySem.Challenge.rw_tiledwhole_k49_whole_cuts_turned_and_gro.Holds := by
  w_on; o_law; k_head; (case hw => w_witness2)
  k_fill
  refine L2.walk_of (l := PySem.Challenge.rw_tiledwhole_k49_whole_cuts_turned_and_gro) (n := 63) (k := 8) (x := "script") (CX := fun _ => L2.CX0) (sp := fun w => EV.spLaw _) rfl (by decide) rfl ⟨rfl, by decide, by decide⟩ (fun w h Y => PySem.W.kIn_of Y) ?F (fun _ _ a ns hl _ hS => ⟨a, ns, rfl, hS, hl, fun _ => rfl⟩) (fun _ _ _ _ _ h => h)
  case F =>
    intro w mg fa h KX G hmg
    refine EV.allL (l := PySem.Challenge.rw_tiledwhole_k49_whole_cuts_turned_and_gro) hmg ?mg0 ?con ?DL ?DH ?hF
    case mg0 =>
      intro x hx
      simp only [EV.blts, List.mem_cons, List.not_mem_nil, or_false] at hx
      rcases hx with hx | hx | hx | hx | hx | hx | hx | hx | hx | hx | hx | hx | hx | hx | hx | hx | hx | hx | hx <;> subst hx
      · refine PySem.W.mg_none_of KX G ?_
        k_is
      · refine PySem.W.mg_none_of KX G ?_
        k_is
      · refine PySem.W.mg_none_of KX G ?_
        k_is
      · refine PySem.W.mg_none_of KX G ?_
        k_is
      · refine PySem.W.mg_none_of KX G ?_
        k_is
      · refine PySem.W.mg_none_of KX G ?_
        k_is
      · refine PySem.W.mg_none_of KX G ?_
        k_is
      · refine PySem.W.mg_none_of KX G ?_
        k_is
      · refine PySem.W.mg_none_of KX G ?_
        k_is
      · refine PySem.W.mg_none_of KX G ?_
        k_is
      · refine PySem.W.mg_none_of KX G ?_
        k_is
      · refine PySem.W.mg_none_of KX G ?_
        k_is
      · refine PySem.W.mg_none_of KX G ?_
        k_is
      · refine PySem.W.mg_none_of KX G ?_
        k_is
      · refine PySem.W.mg_none_of KX G ?_
        k_is
      · refine PySem.W.mg_none_of KX G ?_
        k_is
      · refine PySem.W.mg_none_of KX G ?_
        k_is
      · refine PySem.W.mg_none_of KX G ?_
        k_is
      · refine PySem.W.mg_none_of KX G ?_
        k_is
    case con =>
      refine EV.conL ?e0 ?e1
      case e0 =>
        refine' EV.con_mk KX G ?ce ?cq
        (case ce => k_is); (case cq => exact ⟨_, rfl⟩)
      case e1 =>
        refine' EV.con_mk KX G ?ce ?cq
        (case ce => k_is); (case cq => exact ⟨_, rfl⟩)
    case DL =>
      refine' EV.df_mk KX G (fun _ _ _ _ _ _ us hl => match us, hl with | [_], _ => rfl) ?a ?l ?c ?k
      (case a => k_is); (case l => k_is); (case c => k_is); (case k => k_is)
    case DH =>
      refine' EV.df_mk KX G (fun _ _ _ _ _ _ us hl => match us, hl with | [_], _ => rfl) ?a ?l ?c ?k
      (case a => k_is); (case l => k_is); (case c => k_is); (case k => k_is)
    case hF =>
      refine' EV.hF ?mg0 ?d0 ?d1 ?d2 ?d3 ?d4 ?d5 ?d6 ?d7 ?d8 ?d9 ?d10 ?d11 ?d12 ?d13 ?d14 ?d15 ?d16 ?d17 ?d18 ?d19 ?d20 ?d21 ?d22 ?d23 ?d24
      case mg0 =>
        intro x hx
        simp only [EV.blts, List.mem_cons, List.not_mem_nil, or_false] at hx
        rcases hx with hx | hx | hx | hx | hx | hx | hx | hx | hx | hx | hx | hx | hx | hx | hx | hx | hx | hx | hx <;> subst hx
        · refine PySem.W.mg_none_of KX G ?_
          k_is
        · refine PySem.W.mg_none_of KX G ?_
          k_is
        · refine PySem.W.mg_none_of KX G ?_
          k_is
        · refine PySem.W.mg_none_of KX G ?_
          k_is
        · refine PySem.W.mg_none_of KX G ?_
          k_is
        · refine PySem.W.mg_none_of KX G ?_
          k_is
        · refine PySem.W.mg_none_of KX G ?_
          k_is
        · refine PySem.W.mg_none_of KX G ?_
          k_is
        · refine PySem.W.mg_none_of KX G ?_
          k_is
        · refine PySem.W.mg_none_of KX G ?_
          k_is
        · refine PySem.W.mg_none_of KX G ?_
          k_is
        · refine PySem.W.mg_none_of KX G ?_
          k_is
        · refine PySem.W.mg_none_of KX G ?_
          k_is
        · refine PySem.W.mg_none_of KX G ?_
          k_is
        · refine PySem.W.mg_none_of KX G ?_
          k_is
        · refine PySem.W.mg_none_of KX G ?_
          k_is
        · refine PySem.W.mg_none_of KX G ?_
          k_is
        · refine PySem.W.mg_none_of KX G ?_
          k_is
        · refine PySem.W.mg_none_of KX G ?_
          k_is
      case d0 =>
        refine' EV.df_mk KX G (fun _ _ _ _ _ _ us hl => match us, hl with | [_, _], _ => rfl) ?a ?l ?c ?k
        (case a => k_is); (case l => k_is); (case c => k_is); (case k => k_is)
      case d1 =>
        refine' EV.df_mk KX G (fun _ _ _ _ _ _ us hl => match us, hl with | [_, _], _ => rfl) ?a ?l ?c ?k
        (case a => k_is); (case l => k_is); (case c => k_is); (case k => k_is)
      case d2 =>
        refine' EV.df_mk KX G (fun _ _ _ _ _ _ us hl => match us, hl with | [_, _], _ => rfl) ?a ?l ?c ?k
        (case a => k_is); (case l => k_is); (case c => k_is); (case k => k_is)
      case d3 =>
        refine' EV.df_mk KX G (fun _ _ _ _ _ _ us hl => match us, hl with | [_, _], _ => rfl) ?a ?l ?c ?k
        (case a => k_is); (case l => k_is); (case c => k_is); (case k => k_is)
      case d4 =>
        refine' EV.df_mk KX G (fun _ _ _ _ _ _ us hl => match us, hl with | [_], _ => rfl) ?a ?l ?c ?k
        (case a => k_is); (case l => k_is); (case c => k_is); (case k => k_is)
      case d5 =>
        refine' EV.df_mk KX G (fun _ _ _ _ _ _ us hl => match us, hl with | [_, _, _], _ => rfl) ?a ?l ?c ?k
        (case a => k_is); (case l => k_is); (case c => k_is); (case k => k_is)
      case d6 =>
        refine' EV.df_mk KX G (fun _ _ _ _ _ _ us hl => match us, hl with | [_], _ => rfl) ?a ?l ?c ?k
        (case a => k_is); (case l => k_is); (case c => k_is); (case k => k_is)
      case d7 =>
        refine' EV.df_mk KX G (fun _ _ _ _ _ _ us hl => match us, hl with | [_], _ => rfl) ?a ?l ?c ?k
        (case a => k_is); (case l => k_is); (case c => k_is); (case k => k_is)
      case d8 =>
        refine' EV.df_mk KX G (fun _ _ _ _ _ _ us hl => match us, hl with | [_], _ => rfl) ?a ?l ?c ?k
        (case a => k_is); (case l => k_is); (case c => k_is); (case k => k_is)
      case d9 =>
        refine' EV.df_mk KX G (fun _ _ _ _ _ _ us hl => match us, hl with | [_, _], _ => rfl) ?a ?l ?c ?k
        (case a => k_is); (case l => k_is); (case c => k_is); (case k => k_is)
      case d10 =>
        refine' EV.df_mk KX G (fun _ _ _ _ _ _ us hl => match us, hl with | [_], _ => rfl) ?a ?l ?c ?k
        (case a => k_is); (case l => k_is); (case c => k_is); (case k => k_is)
      case d11 =>
        refine' EV.df_mk KX G (fun _ _ _ _ _ _ us hl => match us, hl with | [_], _ => rfl) ?a ?l ?c ?k
        (case a => k_is); (case l => k_is); (case c => k_is); (case k => k_is)
      case d12 =>
        refine' EV.df_mk KX G (fun _ _ _ _ _ _ us hl => match us, hl with | [_], _ => rfl) ?a ?l ?c ?k
        (case a => k_is); (case l => k_is); (case c => k_is); (case k => k_is)
      case d13 =>
        refine' EV.df_mk KX G (fun _ _ _ _ _ _ us hl => match us, hl with | [_], _ => rfl) ?a ?l ?c ?k
        (case a => k_is); (case l => k_is); (case c => k_is); (case k => k_is)
      case d14 =>
        refine' EV.df_mk KX G (fun _ _ _ _ _ _ us hl => match us, hl with | [_], _ => rfl) ?a ?l ?c ?k
        (case a => k_is); (case l => k_is); (case c => k_is); (case k => k_is)
      case d15 =>
        refine' EV.df_mk KX G (fun _ _ _ _ _ _ us hl => match us, hl with | [_], _ => rfl) ?a ?l ?c ?k
        (case a => k_is); (case l => k_is); (case c => k_is); (case k => k_is)
      case d16 =>
        refine' EV.df_mk KX G (fun _ _ _ _ _ _ us hl => match us, hl with | [_], _ => rfl) ?a ?l ?c ?k
        (case a => k_is); (case l => k_is); (case c => k_is); (case k => k_is)
      case d17 =>
        refine' EV.df_mk KX G (fun _ _ _ _ _ _ us hl => match us, hl with | [_, _], _ => rfl) ?a ?l ?c ?k
        (case a => k_is); (case l => k_is); (case c => k_is); (case k => k_is)
      case d18 =>
        refine' EV.df_mk KX G (fun _ _ _ _ _ _ us hl => match us, hl with | [_, _], _ => rfl) ?a ?l ?c ?k
        (case a => k_is); (case l => k_is); (case c => k_is); (case k => k_is)
      case d19 =>
        refine' EV.df_mk KX G (fun _ _ _ _ _ _ us hl => match us, hl with | [_], _ => rfl) ?a ?l ?c ?k
        (case a => k_is); (case l => k_is); (case c => k_is); (case k => k_is)
      case d20 =>
        refine' EV.df_mk KX G (fun _ _ _ _ _ _ us hl => match us, hl with | [_, _, _], _ => rfl) ?a ?l ?c ?k
        (case a => k_is); (case l => k_is); (case c => k_is); (case k => k_is)
      case d21 =>
        refine' EV.df_mk KX G (fun _ _ _ _ _ _ us hl => match us, hl with | [_], _ => rfl) ?a ?l ?c ?k
        (case a => k_is); (case l => k_is); (case c => k_is); (case k => k_is)
      case d22 =>
        refine' EV.df_mk KX G (fun _ _ _ _ _ _ us hl => match us, hl with | [_, _], _ => rfl) ?a ?l ?c ?k
        (case a => k_is); (case l => k_is); (case c => k_is); (case k => k_is)
      case d23 =>
        refine' EV.df_mk KX G (fun _ _ _ _ _ _ us hl => match us, hl with | [_, _, _, _], _ => rfl) ?a ?l ?c ?k
        (case a => k_is); (case l => k_is); (case c => k_is); (case k => k_is)
      case d24 =>
        refine' EV.df_mk KX G (fun _ _ _ _ _ _ us hl => match us, hl with | [_, _], _ => rfl) ?a ?l ?c ?k
        (case a => k_is); (case l => k_is); (case c => k_is); (case k => k_is)
