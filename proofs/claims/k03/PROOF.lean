import PyProof.Rows.All
import Wide.All
import OpenK.AllK
import Wide.FinOn
import HandS.ForMost
import HandS.Wide
import HandS.Gcd
import HandS.Deep
import HandS.TupAny
import HandS.TupMul
import HandS.SortInts
import HandS.Zip
import PyProof.ReprRoads
import HandS.Conv
import HandS.More
import HandS.Style
import HandS.Ends
import PySem.Challenge.RW_heldthrough_k03_fractions_and_vectors_re
set_option Elab.async false
set_option linter.all false
set_option maxRecDepth 100000
set_option maxHeartbeats 4000000
/-! The data layer: what a piece of code does with data, without addresses. -/
namespace DW
open PySem PySem.Spec L2
open PyProof.Rows hiding St

/-! ### the canonical readings -/
section
variable {X : Cx}
def tW (X : Cx) (e : Expr) : TE := fun σ H Q => ∀ pins s, Inv X pins σ H s → wpAny (model X.prog X.w) X.A (eval e X.env) (EP X pins σ Q) X.xe s
def tWt (X : Cx) (e : Expr) : TT := fun σ H Q => ∀ pins s, Inv X pins σ H s → wpAny (model X.prog X.w) X.A (isTrue e X.env (eval e X.env)) (TP X pins σ Q) X.xe s
def tWw (X : Cx) (e : Expr) : TT := fun σ H Q => ∀ (whole : Sem Value) pins s, Inv X pins σ H s → wpAny (model X.prog X.w) X.A (isTrue e X.env whole) (TP X pins σ Q) X.xe s
def tWa (X : Cx) (es : List Expr) : TA := fun σ H Q => ∀ (pos : Pos) pins s, Inv X pins σ H s → wpAny (model X.prog X.w) X.A (spliced (backTo pos (starEach es X.env))) (AP X pins σ Q) X.xe s
def tWs (X : Cx) (st : Stmt) : TS := fun D σ H => ∀ pins s, Inv X pins σ H s → wpAny (model X.prog X.w) X.A (exec st X.env) (SP X pins D) X.xe s
def tWb (X : Cx) (st : List Stmt) : TS := fun D σ H => ∀ pins s, Inv X pins σ H s → wpAny (model X.prog X.w) X.A (execs st X.env) (SP X pins D) X.xe s
def tWg (X : Cx) (tg : Expr) : TG := fun v σ H Q => ∀ pins s u, Inv X pins σ H s → RelV v u → wpAny (model X.prog X.w) X.A (assign tg X.env u) (fun _ s' => ∃ σ' H', Inv X pins σ' H' s' ∧ Q σ' H') X.xe s
theorem pe_w (e : Expr) : PE X e (tW X e) := ⟨fun pins s _ _ _ I h => h pins s I⟩
theorem pt_w (e : Expr) : PT X e (tWt X e) := ⟨fun pins s _ _ _ I h => h pins s I⟩
theorem pw_w (e : Expr) : PW X e (tWw X e) := ⟨fun wh pins s _ _ _ I h => h wh pins s I⟩
theorem pa_w (es : List Expr) : PA X es (tWa X es) := ⟨fun pos pins s _ _ _ I h => h pos pins s I⟩
theorem ps_w (st : Stmt) : PS X st (tWs X st) := ⟨fun pins s _ _ _ I h => h pins s I⟩
theorem pss_w (st : List Stmt) : PSs X st (tWb X st) := ⟨fun pins s _ _ _ I h => h pins s I⟩
theorem pg_w (tg : Expr) : PG X tg (tWg X tg) := ⟨fun pins s _ _ _ u _ I r h => h pins s u I r⟩
theorem tW.of {e : Expr} {t : TE} {σ : St} {H : Hp} {Q : VK} (p : PE X e t) (h : t σ H Q) : tW X e σ H Q := fun pins s I => p.run pins s σ H Q I h
theorem tWt.of {e : Expr} {t : TT} {σ : St} {H : Hp} {Q : Bool → Hp → Prop} (p : PT X e t) (h : t σ H Q) : tWt X e σ H Q := fun pins s I => p.run pins s σ H Q I h
theorem tWw.of {e : Expr} {t : TT} {σ : St} {H : Hp} {Q : Bool → Hp → Prop} (p : PW X e t) (h : t σ H Q) : tWw X e σ H Q := fun wh pins s I => p.run wh pins s σ H Q I h
theorem tWa.of {es : List Expr} {t : TA} {σ : St} {H : Hp} {Q : List V → Hp → Prop} (p : PA X es t) (h : t σ H Q) : tWa X es σ H Q := fun pos pins s I => p.run pos pins s σ H Q I h
theorem tWs.of {st : Stmt} {t : TS} {σ : St} {H : Hp} {D : Ends} (p : PS X st t) (h : t D σ H) : tWs X st D σ H := fun pins s I => p.run pins s σ H D I h
theorem tWb.of {st : List Stmt} {t : TS} {σ : St} {H : Hp} {D : Ends} (p : PSs X st t) (h : t D σ H) : tWb X st D σ H := fun pins s I => p.run pins s σ H D I h
theorem tWg.of {tg : Expr} {t : TG} {v : V} {σ : St} {H : Hp} {Q : St → Hp → Prop} (p : PG X tg t) (h : t v σ H Q) : tWg X tg v σ H Q := fun pins s u I r => p.run pins s σ H v u Q I r h
theorem tW.mono {e : Expr} {σ : St} {H : Hp} {Q Q' : VK} (h : tW X e σ H Q) (k : ∀ v H', Q v H' → Q' v H') : tW X e σ H Q' :=
  fun pins s I => thn (h pins s I) fun _ _ ⟨v, H', I', r, q⟩ => ⟨v, H', I', r, k v H' q⟩
theorem tWt.mono {e : Expr} {σ : St} {H : Hp} {Q Q' : Bool → Hp → Prop} (h : tWt X e σ H Q) (k : ∀ v H', Q v H' → Q' v H') : tWt X e σ H Q' :=
  fun pins s I => thn (h pins s I) fun v _ ⟨H', I', q⟩ => ⟨H', I', k v H' q⟩
theorem tWw.mono {e : Expr} {σ : St} {H : Hp} {Q Q' : Bool → Hp → Prop} (h : tWw X e σ H Q) (k : ∀ v H', Q v H' → Q' v H') : tWw X e σ H Q' :=
  fun wh pins s I => thn (h wh pins s I) fun v _ ⟨H', I', q⟩ => ⟨H', I', k v H' q⟩
theorem tWa.mono {es : List Expr} {σ : St} {H : Hp} {Q Q' : List V → Hp → Prop} (h : tWa X es σ H Q) (k : ∀ v H', Q v H' → Q' v H') : tWa X es σ H Q' :=
  fun pos pins s I => thn (h pos pins s I) fun _ _ ⟨v, H', I', r, q⟩ => ⟨v, H', I', r, k v H' q⟩
theorem tWg.mono {tg : Expr} {v : V} {σ : St} {H : Hp} {Q Q' : St → Hp → Prop} (h : tWg X tg v σ H Q) (k : ∀ σ' H', Q σ' H' → Q' σ' H') : tWg X tg v σ H Q' :=
  fun pins s u I r => thn (h pins s u I r) fun _ _ ⟨σ', H', I', q⟩ => ⟨σ', H', I', k _ _ q⟩
/-- from the state as it is -/
theorem tW.inv {e : Expr} {σ : St} {H : Hp} {Q : VK} (h : ∀ pins s, Inv X pins σ H s → tW X e σ H Q) : tW X e σ H Q := fun pins s I => h pins s I pins s I
end
theorem SP.mono {X : Cx} {pins : List (Addr × Obj)} {D D' : Ends} {f : Flow} {s : Shared} (h : SP X pins D f s) (n : ∀ σ H, D.nx σ H → D'.nx σ H) (r : ∀ v H, D.rt v H → D'.rt v H) (b : ∀ σ H, D.bk σ H → D'.bk σ H) (c : ∀ σ H, D.ct σ H → D'.ct σ H) : SP X pins D' f s := by
  cases f with
  | next => obtain ⟨σ', H', I, q⟩ := h; exact ⟨σ', H', I, n _ _ q⟩
  | brk => obtain ⟨σ', H', I, q⟩ := h; exact ⟨σ', H', I, b _ _ q⟩
  | cont => obtain ⟨σ', H', I, q⟩ := h; exact ⟨σ', H', I, c _ _ q⟩
  | ret u => obtain ⟨v, σ', H', I, rr, q⟩ := h; exact ⟨v, σ', H', I, rr, r _ _ q⟩
theorem tWs.mono {X : Cx} {st : Stmt} {σ : St} {H : Hp} {D D' : Ends} (h : tWs X st D σ H) (n : ∀ σ H, D.nx σ H → D'.nx σ H) (r : ∀ v H, D.rt v H → D'.rt v H) (b : ∀ σ H, D.bk σ H → D'.bk σ H) (c : ∀ σ H, D.ct σ H → D'.ct σ H) : tWs X st D' σ H :=
  fun pins s I => thn (h pins s I) fun _ _ q => SP.mono q n r b c
theorem tWb.mono {X : Cx} {st : List Stmt} {σ : St} {H : Hp} {D D' : Ends} (h : tWb X st D σ H) (n : ∀ σ H, D.nx σ H → D'.nx σ H) (r : ∀ v H, D.rt v H → D'.rt v H) (b : ∀ σ H, D.bk σ H → D'.bk σ H) (c : ∀ σ H, D.ct σ H → D'.ct σ H) : tWb X st D' σ H :=
  fun pins s I => thn (h pins s I) fun _ _ q => SP.mono q n r b c

/-! ### heaps and data -/
theorem same_new {H : Hp} {p : Addr} {o : HO} (h : H p = none) : Same H (upd H p o) := fun b x e => by
  rw [upd_ne (ne_of_none e h)]; exact e
theorem same_rd {H H' : Hp} {a : Addr} {u : HO} (e : Same H H') (h : Rd H a u) : Rd H' a u := by
  rcases h with h | ⟨o, h⟩
  · exact .inl (e a _ h)
  · exact .inr ⟨o, e a _ h⟩
theorem same_l {K : PySem.W.Frag} {H H' : Hp} {a : Addr} {xs : List V} (e : Same H H') (h : SqL K H a xs) : SqL K H' a xs := h.imp (same_rd e) id
theorem same_t {K : PySem.W.Frag} {H H' : Hp} {a : Addr} {xs : List V} (e : Same H H') (h : SqT K H a xs) : SqT K H' a xs := h.imp (same_rd e) id
mutual
theorem dp_mono {K : PySem.W.Frag} {S S' : Hp} (e : Same S S') : ∀ {v : V} {d : PyData}, Dp K S v d → Dp K S' v d
  | _, _, .non => .non
  | _, _, .bl b => .bl b
  | _, _, .int i => .int i
  | _, _, .str x => .str x
  | _, _, .lst h a => .lst (same_l e h) (dpa_mono e a)
  | _, _, .tup h a => .tup (same_t e h) (dpa_mono e a)
theorem dpa_mono {K : PySem.W.Frag} {S S' : Hp} (e : Same S S') : ∀ {vs : List V} {ds : List PyData}, DpAll K S vs ds → DpAll K S' vs ds
  | _, _, .nil => .nil
  | _, _, .cons h t => .cons (dp_mono e h) (dpa_mono e t)
end
end DW
namespace L2
open PySem PySem.Spec
section
variable {K : PySem.W.Frag} {S : Hp}
theorem DpAll.len : ∀ {vs : List V} {ds : List PyData}, DpAll K S vs ds → vs.length = ds.length
  | _, _, .nil => rfl
  | _, _, .cons _ t => congrArg (· + 1) t.len
theorem DpAll.get : ∀ {vs : List V} {ds : List PyData} {i : Nat} {d : PyData}, DpAll K S vs ds → ds[i]? = some d → ∃ v, vs[i]? = some v ∧ Dp K S v d
  | _, _, _, _, .nil, e => by simp at e
  | _, _, 0, _, .cons r _, e => ⟨_, rfl, by simp at e; subst e; exact r⟩
  | _, _, i + 1, d, .cons _ t, e => by
    obtain ⟨v, h1, h2⟩ := DpAll.get (i := i) (d := d) t (by simpa using e)
    exact ⟨v, by simpa using h1, h2⟩
theorem DpAll.got : ∀ {vs : List V} {ds : List PyData} {i : Nat} {v : V}, DpAll K S vs ds → vs[i]? = some v → ∃ d, ds[i]? = some d ∧ Dp K S v d
  | _, _, _, _, .nil, e => by simp at e
  | _, _, 0, _, .cons r _, e => ⟨_, rfl, by simp at e; subst e; exact r⟩
  | _, _, i + 1, v, .cons _ t, e => by
    obtain ⟨d, h1, h2⟩ := DpAll.got (i := i) (v := v) t (by simpa using e)
    exact ⟨d, by simpa using h1, h2⟩
theorem DpAll.app : ∀ {vs us : List V} {ds es : List PyData}, DpAll K S vs ds → DpAll K S us es → DpAll K S (vs ++ us) (ds ++ es)
  | _, _, _, _, .nil, h => h
  | _, _, _, _, .cons r t, h => .cons r (t.app h)
theorem DpAll.one {v : V} {d : PyData} (h : Dp K S v d) : DpAll K S [v] [d] := .cons h .nil
theorem DpAll.take : ∀ {vs : List V} {ds : List PyData} (n : Nat), DpAll K S vs ds → DpAll K S (vs.take n) (ds.take n)
  | _, _, 0, _ => .nil
  | _, _, _ + 1, .nil => .nil
  | _, _, n + 1, .cons r t => .cons r (t.take n)
theorem DpAll.drop : ∀ {vs : List V} {ds : List PyData} (n : Nat), DpAll K S vs ds → DpAll K S (vs.drop n) (ds.drop n)
  | _, _, 0, h => h
  | _, _, _ + 1, .nil => .nil
  | _, _, n + 1, .cons _ t => t.drop n
theorem DpAll.setAt : ∀ {vs : List V} {ds : List PyData} (n : Nat) {v : V} {d : PyData}, DpAll K S vs ds → Dp K S v d → DpAll K S (vs.set n v) (ds.set n d)
  | _, _, _, _, _, .nil, _ => .nil
  | _, _, 0, _, _, .cons _ t, h => .cons h t
  | _, _, n + 1, _, _, .cons r t, h => .cons r (t.setAt n h)
theorem DpAll.ints : ∀ {vs : List V} {ns : List Int}, DpAll K S vs (ns.map PyData.int) → vs = ns.map V.int
  | _, [], .nil => rfl
  | _, _ :: _, .cons h t => by cases h; rw [t.ints]; rfl
theorem DpAll.ofInts : ∀ {ns : List Int}, DpAll K S (ns.map V.int) (ns.map PyData.int)
  | [] => .nil
  | n :: _ => .cons (.int n) DpAll.ofInts
theorem DpAll.strs : ∀ {vs : List V} {ns : List Str}, DpAll K S vs (ns.map PyData.str) → vs = ns.map V.str
  | _, [], .nil => rfl
  | _, _ :: _, .cons h t => by cases h; rw [t.strs]; rfl
theorem DpAll.bools : ∀ {vs : List V} {ns : List Bool}, DpAll K S vs (ns.map PyData.bool) → vs = ns.map V.bl
  | _, [], .nil => rfl
  | _, _ :: _, .cons h t => by cases h; rw [t.bools]; rfl
end

end L2
namespace DW
open PySem PySem.Spec L2
open PyProof.Rows hiding St
/-! ### what the names hold -/
inductive Bd where
  | no
  /-- data that stays -/
  | im (d : PyData)
  /-- an own list that changes -/
  | mu (ds : List PyData)
  /-- a value as it is -/
  | rw (v : V)
structure Fx where
  H0 : Hp
  S0 : Hp
  bag : Option Addr
/-- the drawing's state -/
def BagIn (K : PySem.W.Frag) (S H : Hp) (b : Addr) : Prop :=
  ∃ (c : Addr) (i j k : Int) (ns : List Int), H b = some (.lst [.int i, .int j, .int k, .ref c]) ∧ SqL K S c (ns.map V.int) ∧ 0 ≤ i ∧ 0 ≤ j ∧ j < 2147483647 ∧ 0 ≤ k ∧ (ns.length ≤ 63 ∧ ∀ n ∈ ns, 0 ≤ n)
theorem BagIn.mono {K : PySem.W.Frag} {S S' H H' : Hp} {b : Addr} (h : BagIn K S H b) (e : Same S S') (k : H' b = H b) : BagIn K S' H' b := by
  obtain ⟨c, i, j, m, ns, h1, h2, r⟩ := h
  exact ⟨c, i, j, m, ns, k.trans h1, same_l e h2, r⟩
/-- what is kept, all but the bag -/
def Kp (F : Fx) (H H' : Hp) : Prop := ∀ a o, H a = some o → F.bag ≠ some a → H' a = some o
theorem Kp.refl {F : Fx} (H : Hp) : Kp F H H := fun _ _ e _ => e
theorem Kp.trans {F : Fx} {H H1 H2 : Hp} (a : Kp F H H1) (b : Kp F H1 H2) : Kp F H H2 := fun x o e n => b x o (a x o e n) n
theorem Kp.same {F : Fx} {H H' : Hp} (e : Same H H') : Kp F H H' := fun a o h _ => e a o h

structure GRel (K : PySem.W.Frag) (F : Fx) (Γ : List Bd) (σ : St) (H S : Hp) : Prop where
  ex : Same S H
  s0 : Same F.S0 S
  nw : ∀ a o, S a = some o → (∃ u, F.S0 a = some u) ∨ F.H0 a = none
  keep : Kp F F.H0 H
  bag : ∀ b, F.bag = some b → S b = none ∧ (∃ o, F.H0 b = some o) ∧ BagIn K S H b
  loc : ∀ (i : Nat) (d : PyData), Γ[i]? = some (Bd.im d) → ∃ v, σ[i]? = some (some v) ∧ Dp K S v d
  own : ∀ (i : Nat) (ds : List PyData), Γ[i]? = some (Bd.mu ds) → ∃ a xs, σ[i]? = some (some (.ref a)) ∧ H a = some (.lst xs) ∧ S a = none ∧ F.H0 a = none ∧ DpAll K S xs ds
  raw : ∀ (i : Nat) (v : V), Γ[i]? = some (Bd.rw v) → σ[i]? = some (some v)
  sep : ∀ (i j : Nat) (a : Addr) (ds es : List PyData), Γ[i]? = some (Bd.mu ds) → Γ[j]? = some (Bd.mu es) → σ[i]? = some (some (.ref a)) → σ[j]? = some (some (.ref a)) → i = j
section
variable {K : PySem.W.Frag} {F : Fx} {Γ Γ' : List Bd} {σ σ' : St} {H H' S S' : Hp}
theorem GRel.h0 (g : GRel K F Γ σ H S) {p : Addr} (h : H p = none) : F.H0 p = none := by
  cases e : F.H0 p with
  | none => rfl
  | some o =>
    by_cases hb : F.bag = some p
    · obtain ⟨_, _, _, _, _, _, _, q, _⟩ := g.bag p hb
      rw [h] at q; cases q
    · rw [g.keep p o e hb] at h; cases h
theorem GRel.sNone (g : GRel K F Γ σ H S) {p : Addr} (h : H p = none) : S p = none := by
  cases e : S p with
  | none => rfl
  | some o => rw [g.ex p o e] at h; cases h
theorem GRel.nb (g : GRel K F Γ σ H S) {p : Addr} (h : H p = none) : F.bag ≠ some p := fun e => by
  obtain ⟨_, ⟨o, q⟩, _⟩ := g.bag p e
  rw [g.h0 h] at q; cases q
/-- the heap grows -/
theorem GRel.ext (g : GRel K F Γ σ H S) (k : Kp F H H') (e : Same S S') (x : Same S' H') (n : ∀ a o, S' a = some o → (∃ u, S a = some u) ∨ H a = none) (b : ∀ b, F.bag = some b → S' b = none ∧ BagIn K S' H' b) : GRel K F Γ σ H' S' := by
  have nS : ∀ {a : Addr} {o : HO}, H a = some o → S a = none → S' a = none := fun {a o} h1 h2 => by
    cases q : S' a with
    | none => rfl
    | some u =>
      rcases n a u q with ⟨u', z⟩ | z
      · rw [h2] at z; cases z
      · rw [h1] at z; cases z
  refine ⟨x, g.s0.trans e, fun a o h => ?_, g.keep.trans k, fun c hc => ⟨(b c hc).1, (g.bag c hc).2.1, (b c hc).2⟩, fun i d h => ?_, fun i ds h => ?_, g.raw, g.sep⟩
  · rcases n a o h with ⟨u, z⟩ | z
    · exact g.nw a u z
    · exact .inr (g.h0 z)
  · obtain ⟨v, h1, h2⟩ := g.loc i d h
    exact ⟨v, h1, dp_mono e h2⟩
  · obtain ⟨a, xs, h1, h2, h3, h4, h5⟩ := g.own i ds h
    have nb : F.bag ≠ some a := fun z => by
      obtain ⟨_, ⟨o, q⟩, _⟩ := g.bag a z
      rw [h4] at q; cases q
    exact ⟨a, xs, h1, k a _ h2 nb, nS h2 h3, h4, dpa_mono e h5⟩
theorem GRel.bagNone (g : GRel K F Γ σ H S) (b : Addr) (hb : F.bag = some b) {p : Addr} (h : H p = none) : b ≠ p := fun e => g.nb h (e ▸ hb)
/-- a new thing that stays -/
theorem GRel.new (g : GRel K F Γ σ H S) {p : Addr} (o : HO) (h : H p = none) : GRel K F Γ σ (upd H p o) (upd S p o) := by
  have hs := g.sNone h
  refine g.ext (Kp.same (same_new h)) (same_new hs) (fun a u e => ?_) (fun a u e => ?_) fun b hb => ?_
  · by_cases q : a = p
    · subst q; rw [upd_same] at e ⊢; exact e
    · rw [upd_ne q] at e ⊢; exact g.ex a u e
  · by_cases q : a = p
    · subst q; exact .inr h
    · rw [upd_ne q] at e; exact .inl ⟨u, e⟩
  · have hn := g.bagNone b hb h
    obtain ⟨h1, _, h3⟩ := g.bag b hb
    exact ⟨by rw [upd_ne hn]; exact h1, h3.mono (same_new hs) (upd_ne hn)⟩
/-- a new thing of which nothing is said -/
theorem GRel.more (g : GRel K F Γ σ H S) {p : Addr} (o : HO) (h : H p = none) : GRel K F Γ σ (upd H p o) S :=
  g.ext (Kp.same (same_new h)) (Same.refl S) (fun a u e => same_new h a u (g.ex a u e)) (fun a u e => .inl ⟨u, e⟩) fun b hb => by
    obtain ⟨h1, _, h3⟩ := g.bag b hb
    exact ⟨h1, h3.mono (Same.refl S) (upd_ne (g.bagNone b hb h))⟩
theorem GRel.nil (g : GRel K F Γ σ H S) : GRel K F [] σ' H S :=
  ⟨g.ex, g.s0, g.nw, g.keep, g.bag, fun _ _ h => by simp at h, fun _ _ h => by simp at h, fun _ _ h => by simp at h, fun _ _ _ _ _ h => by simp at h⟩
/-- other names -/
theorem GRel.re (g : GRel K F Γ σ H S) (l : ∀ (i : Nat) (d : PyData), Γ'[i]? = some (Bd.im d) → ∃ v, σ'[i]? = some (some v) ∧ Dp K S v d) (m : ∀ (i : Nat) (ds : List PyData), Γ'[i]? = some (Bd.mu ds) → Γ[i]? = some (Bd.mu ds) ∧ σ'[i]? = σ[i]?) (r : ∀ (i : Nat) (v : V), Γ'[i]? = some (Bd.rw v) → σ'[i]? = some (some v)) : GRel K F Γ' σ' H S :=
  ⟨g.ex, g.s0, g.nw, g.keep, g.bag, l, fun i ds h => by
    obtain ⟨h1, h2⟩ := m i ds h
    rw [h2]
    exact g.own i ds h1, r, fun i j a ds es h1 h2 h3 h4 => by
    obtain ⟨p1, p2⟩ := m i ds h1
    obtain ⟨q1, q2⟩ := m j es h2
    rw [p2] at h3
    rw [q2] at h4
    exact g.sep i j a ds es p1 q1 h3 h4⟩
theorem get_set {α : Type} {l : List α} {i j : Nat} {x y : α} (h : (l.set i x)[j]? = some y) : (j = i ∧ y = x ∧ i < l.length) ∨ (j ≠ i ∧ l[j]? = some y) := by
  by_cases e : i = j
  · subst e
    by_cases hl : i < l.length
    · rw [List.getElem?_set_self hl] at h
      exact .inl ⟨rfl, (Option.some.inj h).symm, hl⟩
    · rw [List.getElem?_eq_none (by simpa using hl)] at h; cases h
  · rw [List.getElem?_set_ne e] at h
    exact .inr ⟨fun z => e z.symm, h⟩
/-- a name is stored -/
theorem GRel.store (g : GRel K F Γ σ H S) (hl : Γ.length = σ.length) {i : Nat} {v : V} {d : PyData} (h : Dp K S v d) : GRel K F (Γ.set i (Bd.im d)) (σ.set i (some v)) H S := by
  refine g.re (fun j e hj => ?_) (fun j ds hj => ?_) fun j u hj => ?_
  · rcases get_set hj with ⟨rfl, q, hi⟩ | ⟨ne, q⟩
    · cases q
      exact ⟨v, List.getElem?_set_self (by rw [← hl]; exact hi), h⟩
    · rw [List.getElem?_set_ne (Ne.symm ne)]
      exact g.loc j e q
  · rcases get_set hj with ⟨rfl, q, hi⟩ | ⟨ne, q⟩
    · cases q
    · exact ⟨q, List.getElem?_set_ne (Ne.symm ne)⟩
  · rcases get_set hj with ⟨rfl, q, hi⟩ | ⟨ne, q⟩
    · cases q
    · rw [List.getElem?_set_ne (Ne.symm ne)]
      exact g.raw j u q
theorem GRel.storeRaw (g : GRel K F Γ σ H S) (hl : Γ.length = σ.length) {i : Nat} {v : V} : GRel K F (Γ.set i (Bd.rw v)) (σ.set i (some v)) H S := by
  refine g.re (fun j e hj => ?_) (fun j ds hj => ?_) fun j u hj => ?_
  · rcases get_set hj with ⟨rfl, q, hi⟩ | ⟨ne, q⟩
    · cases q
    · rw [List.getElem?_set_ne (Ne.symm ne)]
      exact g.loc j e q
  · rcases get_set hj with ⟨rfl, q, hi⟩ | ⟨ne, q⟩
    · cases q
    · exact ⟨q, List.getElem?_set_ne (Ne.symm ne)⟩
  · rcases get_set hj with ⟨rfl, q, hi⟩ | ⟨ne, q⟩
    · cases q
      exact List.getElem?_set_self (by rw [← hl]; exact hi)
    · rw [List.getElem?_set_ne (Ne.symm ne)]
      exact g.raw j u q
/-- an own list is stored -/
theorem GRel.storeMu (g : GRel K F Γ σ H S) (hl : Γ.length = σ.length) {i : Nat} {p : Addr} {xs : List V} {ds : List PyData} (h1 : H p = some (.lst xs)) (h2 : S p = none) (h3 : F.H0 p = none) (h4 : DpAll K S xs ds)
    (h5 : ∀ (j : Nat) (es : List PyData), Γ[j]? = some (Bd.mu es) → σ[j]? ≠ some (some (.ref p))) : GRel K F (Γ.set i (Bd.mu ds)) (σ.set i (some (.ref p))) H S := by
  refine ⟨g.ex, g.s0, g.nw, g.keep, g.bag, fun j e hj => ?_, fun j es hj => ?_, fun j u hj => ?_, fun j k a es fs hj hk ej ek => ?_⟩
  · rcases get_set hj with ⟨rfl, q, hi⟩ | ⟨ne, q⟩
    · cases q
    · rw [List.getElem?_set_ne (Ne.symm ne)]
      exact g.loc j e q
  · rcases get_set hj with ⟨rfl, q, hi⟩ | ⟨ne, q⟩
    · cases q
      exact ⟨p, xs, List.getElem?_set_self (by rw [← hl]; exact hi), h1, h2, h3, h4⟩
    · rw [List.getElem?_set_ne (Ne.symm ne)]
      exact g.own j es q
  · rcases get_set hj with ⟨rfl, q, hi⟩ | ⟨ne, q⟩
    · cases q
    · rw [List.getElem?_set_ne (Ne.symm ne)]
      exact g.raw j u q
  · rcases get_set hj with ⟨rfl, qj, hi⟩ | ⟨nj, qj⟩ <;> rcases get_set hk with ⟨rfl, qk, hi'⟩ | ⟨nk, qk⟩
    · rfl
    · rw [List.getElem?_set_self (by rw [← hl]; exact hi)] at ej
      rw [List.getElem?_set_ne (Ne.symm nk)] at ek
      cases ej
      exact absurd ek (h5 k fs qk)
    · rw [List.getElem?_set_self (by rw [← hl]; exact hi')] at ek
      rw [List.getElem?_set_ne (Ne.symm nj)] at ej
      cases ek
      exact absurd ej (h5 j es qj)
    · rw [List.getElem?_set_ne (Ne.symm nj)] at ej
      rw [List.getElem?_set_ne (Ne.symm nk)] at ek
      exact g.sep j k a es fs qj qk ej ek
/-- an own list changes -/
theorem GRel.change (g : GRel K F Γ σ H S) {i : Nat} {p : Addr} {ys : List V} {ds es : List PyData} (hi : Γ[i]? = some (Bd.mu ds)) (h1 : σ[i]? = some (some (.ref p))) (h4 : DpAll K S ys es) : GRel K F (Γ.set i (Bd.mu es)) σ (upd H p (.lst ys)) S := by
  obtain ⟨a, xs, e1, e2, e3, e4, _⟩ := g.own i ds hi
  rw [h1] at e1
  cases e1
  have iL : i < Γ.length := (List.getElem?_eq_some_iff.mp hi).1
  have other : ∀ {j : Nat} {fs : List PyData} {b : Addr}, j ≠ i → Γ[j]? = some (Bd.mu fs) → σ[j]? = some (some (.ref b)) → b ≠ p := fun {j fs b} ne q z e => ne (g.sep j i p fs ds q hi (e ▸ z) h1)
  refine ⟨fun a u e => ?_, g.s0, g.nw, fun a u e n => ?_, fun b hb => ?_, fun j d hj => ?_, fun j fs hj => ?_, fun j u hj => ?_, fun j k a fs gs hj hk ej ek => ?_⟩
  · have ne : a ≠ p := ne_of_none e e3
    rw [upd_ne ne]
    exact g.ex a u e
  · have ne : a ≠ p := fun z => by rw [z, e4] at e; cases e
    rw [upd_ne ne]
    exact g.keep a u e n
  · obtain ⟨q1, ⟨o, q2⟩, q3⟩ := g.bag b hb
    have ne : b ≠ p := fun z => by rw [z, e4] at q2; cases q2
    exact ⟨q1, ⟨o, q2⟩, q3.mono (Same.refl S) (upd_ne ne)⟩
  · rcases get_set hj with ⟨rfl, q, _⟩ | ⟨ne, q⟩
    · cases q
    · exact g.loc j d q
  · rcases get_set hj with ⟨rfl, q, _⟩ | ⟨ne, q⟩
    · cases q
      exact ⟨p, ys, h1, upd_same, e3, e4, h4⟩
    · obtain ⟨b, zs, q1, q2, q3, q4, q5⟩ := g.own j fs q
      exact ⟨b, zs, q1, by rw [upd_ne (other ne q q1)]; exact q2, q3, q4, q5⟩
  · rcases get_set hj with ⟨rfl, q, _⟩ | ⟨ne, q⟩
    · cases q
    · exact g.raw j u q
  · have z : ∀ {j : Nat} {fs : List PyData}, (Γ.set i (Bd.mu es))[j]? = some (Bd.mu fs) → ∃ fs', Γ[j]? = some (Bd.mu fs') := fun {j fs} hj => by
      rcases get_set hj with ⟨rfl, q, _⟩ | ⟨ne, q⟩
      · exact ⟨ds, hi⟩
      · exact ⟨fs, q⟩
    obtain ⟨fs', z1⟩ := z hj
    obtain ⟨gs', z2⟩ := z hk
    exact g.sep j k a fs' gs' z1 z2 ej ek
/-- an own list stays from now on -/
theorem GRel.freeze (g : GRel K F Γ σ H S) {i : Nat} {ds : List PyData} (hi : Γ[i]? = some (Bd.mu ds)) : ∃ S', GRel K F (Γ.set i (Bd.im (.list ds))) σ H S' ∧ Same S S' := by
  obtain ⟨p, xs, e1, e2, e3, e4, e5⟩ := g.own i ds hi
  have sm : Same S (upd S p (.lst xs)) := same_new e3
  have other : ∀ {j : Nat} {fs : List PyData} {b : Addr}, j ≠ i → Γ[j]? = some (Bd.mu fs) → σ[j]? = some (some (.ref b)) → b ≠ p := fun {j fs b} ne q z e => ne (g.sep j i p fs ds q hi (e ▸ z) e1)
  refine ⟨upd S p (.lst xs), ⟨fun a u e => ?_, g.s0.trans sm, fun a u e => ?_, g.keep, fun b hb => ?_, fun j d hj => ?_, fun j fs hj => ?_, fun j u hj => ?_, fun j k a fs gs hj hk ej ek => ?_⟩, sm⟩
  · by_cases q : a = p
    · subst q; rw [upd_same] at e; rw [e2]; exact e
    · rw [upd_ne q] at e; exact g.ex a u e
  · by_cases q : a = p
    · subst q; exact .inr e4
    · rw [upd_ne q] at e; exact g.nw a u e
  · obtain ⟨q1, ⟨o, q2⟩, q3⟩ := g.bag b hb
    have ne : b ≠ p := fun z => by rw [z, e4] at q2; cases q2
    exact ⟨by rw [upd_ne ne]; exact q1, ⟨o, q2⟩, q3.mono sm rfl⟩
  · rcases get_set hj with ⟨rfl, q, _⟩ | ⟨ne, q⟩
    · cases q
      exact ⟨.ref p, e1, .lst (.inl (.inl upd_same)) (dpa_mono sm e5)⟩
    · obtain ⟨v, q1, q2⟩ := g.loc j d q
      exact ⟨v, q1, dp_mono sm q2⟩
  · rcases get_set hj with ⟨rfl, q, _⟩ | ⟨ne, q⟩
    · cases q
    · obtain ⟨b, zs, q1, q2, q3, q4, q5⟩ := g.own j fs q
      exact ⟨b, zs, q1, q2, by rw [upd_ne (other ne q q1)]; exact q3, q4, dpa_mono sm q5⟩
  · rcases get_set hj with ⟨rfl, q, _⟩ | ⟨ne, q⟩
    · cases q
    · exact g.raw j u q
  · rcases get_set hj with ⟨rfl, q, _⟩ | ⟨nj, qj⟩
    · cases q
    rcases get_set hk with ⟨rfl, q, _⟩ | ⟨nk, qk⟩
    · cases q
    exact g.sep j k a fs gs qj qk ej ek
end
end DW

namespace DW
open PySem PySem.Spec L2
open PyProof.Rows hiding St

/-! ### the names of a piece of code -/
inductive Kd where | no | rd | lo | ce
structure Nm where
  N : List Str
  kd : List Kd
  gl : List Str
  sc : Scope
def kdOk (sc : Scope) (x : Str) : Kd → Bool
  | .no => true
  | .rd => decide (sc.names.lookup x = some .local) || (decide (sc.names.lookup x = some .cell) || decide (sc.names.lookup x = some .free))
  | .lo => decide (sc.names.lookup x = some .local)
  | .ce => decide (sc.names.lookup x = some .cell)
def kdsOk (sc : Scope) : List Str → List Kd → Bool
  | x :: xs, k :: ks => kdOk sc x k && kdsOk sc xs ks
  | _, _ => true
def glOk (sc : Scope) : List Str → Bool
  | [] => true
  | x :: xs => decide (sc.names.lookup x = some .globalImplicit) && glOk sc xs
def nmOk (M : Nm) : Bool := kdsOk M.sc M.N M.kd && glOk M.sc M.gl && decide M.N.Nodup
theorem kdsOk_get {sc : Scope} : ∀ {xs : List Str} {ks : List Kd} {i : Nat} {x : Str} {k : Kd}, kdsOk sc xs ks = true → xs[i]? = some x → ks[i]? = some k → kdOk sc x k = true
  | [], _, _, _, _, _, h, _ => by simp at h
  | _ :: _, [], _, _, _, _, _, h => by simp at h
  | a :: xs, b :: ks, 0, x, k, h, h1, h2 => by
    simp at h1 h2
    subst h1 h2
    exact (Bool.and_eq_true_iff.mp h).1
  | a :: xs, b :: ks, i + 1, x, k, h, h1, h2 => kdsOk_get (i := i) (Bool.and_eq_true_iff.mp h).2 (by simpa using h1) (by simpa using h2)
theorem glOk_get {sc : Scope} : ∀ {xs : List Str} {x : Str}, glOk sc xs = true → x ∈ xs → sc.names.lookup x = some .globalImplicit
  | [], _, _, h => by cases h
  | a :: xs, x, h, hm => by
    obtain ⟨h1, h2⟩ := Bool.and_eq_true_iff.mp h
    rcases List.mem_cons.mp hm with e | e
    · subst e
      exact of_decide_eq_true h1
    · exact glOk_get h2 e

structure Gd where
  P : Program
  w : World
  K : PySem.W.Frag
  mg : Str → Option Value
  base : Heap
  k : Nat
  grd : Bool

/-- what stands of a context -/
structure Good (G : Gd) (M : Nm) (X : Cx) : Prop where
  prog : X.prog = G.P
  w : X.w = G.w
  K : X.K = G.K
  mg : X.mg = G.mg
  base : X.base = G.base
  room : Room G.k X.A
  grd : G.grd = true → X.A.guards = some []
  calm : X.calm = true
  N : X.N = M.N
  sc : X.env.scope = M.sc
  ok : nmOk M = true
  fn : ∀ (i : Nat) (x : Str), M.N[i]? = some x → M.kd[i]? = some Kd.ce → X.fn x = true
  xe : X.xe = fun _ _ => False
section
variable {G : Gd} {M : Nm} {X : Cx}
theorem Good.nd (g : Good G M X) : X.N.Nodup := by
  rw [g.N]
  exact of_decide_eq_true (Bool.and_eq_true_iff.mp g.ok).2
theorem Good.at (g : Good G M X) {i : Nat} {x : Str} (h : M.N[i]? = some x) : X.N[i]? = some x := by rw [g.N]; exact h
theorem Good.kd (g : Good G M X) {i : Nat} {x : Str} {k : Kd} (h : M.N[i]? = some x) (hk : M.kd[i]? = some k) : kdOk X.env.scope x k = true := by
  rw [g.sc]
  exact kdsOk_get (Bool.and_eq_true_iff.mp (Bool.and_eq_true_iff.mp g.ok).1).1 h hk
theorem Good.gl (g : Good G M X) {x : Str} (h : x ∈ M.gl) : Gl X x := by
  have := glOk_get (Bool.and_eq_true_iff.mp (Bool.and_eq_true_iff.mp g.ok).1).2 h
  show X.env.scope.names.lookup x = _
  rw [g.sc]; exact this
/-- a name that may be read -/
def Rdb (M : Nm) (i : Nat) (x : Str) : Prop := M.N[i]? = some x ∧ (∃ k, M.kd[i]? = some k ∧ k ≠ .no) ∧ (x == ("__debug__" : Str)) = false ∧ (x == ("__classdict__" : Str)) = false
/-- a name that may be stored -/
def Sto (M : Nm) (i : Nat) (x : Str) : Prop := M.N[i]? = some x ∧ (M.kd[i]? = some Kd.lo ∨ M.kd[i]? = some Kd.ce)
def Lcl (M : Nm) (i : Nat) (x : Str) : Prop := M.N[i]? = some x ∧ M.kd[i]? = some Kd.lo
theorem Good.vis (g : Good G M X) {i : Nat} {x : Str} (h : Rdb M i x) : Vis X.env.scope x := by
  obtain ⟨h1, ⟨k, h2, h3⟩, _⟩ := h
  have := g.kd h1 h2
  cases k with
  | no => exact absurd rfl h3
  | rd =>
    rcases Bool.or_eq_true_iff.mp this with q | q
    · exact .inl (of_decide_eq_true q)
    · rcases Bool.or_eq_true_iff.mp q with q | q
      · exact .inr (.inl (of_decide_eq_true q))
      · exact .inr (.inr (of_decide_eq_true q))
  | lo => exact .inl (of_decide_eq_true this)
  | ce => exact .inr (.inl (of_decide_eq_true this))
theorem Good.lcl (g : Good G M X) {i : Nat} {x : Str} (h : Lcl M i x) : X.env.scope.names.lookup x = some .local := of_decide_eq_true (g.kd h.1 h.2)
theorem Good.sto (g : Good G M X) {i : Nat} {x : Str} (h : Sto M i x) : Loc X.env.scope x ∧ (X.fn x = true ∨ X.env.scope.names.lookup x = some .local) := by
  rcases h.2 with q | q
  · have := g.lcl ⟨h.1, q⟩
    exact ⟨.inl this, .inr this⟩
  · exact ⟨.inr (of_decide_eq_true (g.kd h.1 q)), .inl (g.fn i x h.1 q)⟩
end

/-- what an evaluation leaves as it was -/
structure Kq (F : Fx) (H S H' S' : Hp) : Prop where
  kp : Kp F H H'
  dom : ∀ a o, H a = some o → ∃ u, H' a = some u
  nw : ∀ a o, S' a = some o → (∃ u, S a = some u) ∨ H a = none
theorem Kq.refl {F : Fx} (H S : Hp) : Kq F H S H S := ⟨Kp.refl H, fun _ o e => ⟨o, e⟩, fun _ o e => .inl ⟨o, e⟩⟩
theorem Kq.trans {F : Fx} {H S H1 S1 H2 S2 : Hp} (a : Kq F H S H1 S1) (b : Kq F H1 S1 H2 S2) : Kq F H S H2 S2 := by
  refine ⟨a.kp.trans b.kp, fun x o e => ?_, fun x o e => ?_⟩
  · obtain ⟨u, e'⟩ := a.dom x o e
    exact b.dom x u e'
  · rcases b.nw x o e with ⟨u, z⟩ | z
    · exact a.nw x u z
    · refine .inr ?_
      cases q : H x with
      | none => rfl
      | some w =>
        obtain ⟨u, e'⟩ := a.dom x w q
        rw [z] at e'; cases e'
/-- a new thing that stays -/
theorem Kq.new {F : Fx} {H S : Hp} {p : Addr} {o : HO} (hp : H p = none) : Kq F H S (upd H p o) (upd S p o) := by
  refine ⟨Kp.same (same_new hp), fun x u e => ⟨u, same_new hp x u e⟩, fun x u e => ?_⟩
  by_cases q : x = p
  · subst q; exact .inr hp
  · rw [upd_ne q] at e; exact .inl ⟨u, e⟩
/-- a new thing of which nothing is said -/
theorem Kq.more {F : Fx} {H S : Hp} {p : Addr} {o : HO} (hp : H p = none) : Kq F H S (upd H p o) S := ⟨Kp.same (same_new hp), fun x u e => ⟨u, same_new hp x u e⟩, fun x u e => .inl ⟨u, e⟩⟩

/-! ### what is wanted behind an expression -/
section
variable (K : PySem.W.Frag) (F : Fx) (Γ : List Bd) (σ : St) (H S : Hp)
def PostE (Q : PyData → Prop) : VK := fun v H' => ∃ S' d, GRel K F Γ σ H' S' ∧ Same S S' ∧ Kq F H S H' S' ∧ Dp K S' v d ∧ Q d
/-- data, or an own list, to be read -/
def Db (v : V) (d : PyData) : Prop := Dp K S v d ∨ ∃ a xs ds, v = .ref a ∧ d = .list ds ∧ H a = some (.lst xs) ∧ F.bag ≠ some a ∧ DpAll K S xs ds
def PostB (Q : PyData → Prop) : VK := fun v H' => ∃ S' d, GRel K F Γ σ H' S' ∧ Same S S' ∧ Kq F H S H' S' ∧ Db K F H' S' v d ∧ Q d
def PostT (Q : Bool → Prop) : Bool → Hp → Prop := fun b H' => ∃ S', GRel K F Γ σ H' S' ∧ Same S S' ∧ Kq F H S H' S' ∧ Q b
def PostL (Q : List PyData → Prop) : List V → Hp → Prop := fun vs H' => ∃ S' ds, GRel K F Γ σ H' S' ∧ Same S S' ∧ Kq F H S H' S' ∧ DpAll K S' vs ds ∧ Q ds
end
structure WE (G : Gd) (M : Nm) (F : Fx) (e : Expr) (Γ : List Bd) (Q : PyData → Prop) : Prop where
  run : ∀ X, Good G M X → ∀ σ H S, σ.length = M.N.length → GRel G.K F Γ σ H S → tW X e σ H (PostE G.K F Γ σ H S Q)
structure WB (G : Gd) (M : Nm) (F : Fx) (e : Expr) (Γ : List Bd) (Q : PyData → Prop) : Prop where
  run : ∀ X, Good G M X → ∀ σ H S, σ.length = M.N.length → GRel G.K F Γ σ H S → tW X e σ H (PostB G.K F Γ σ H S Q)
structure WT (G : Gd) (M : Nm) (F : Fx) (e : Expr) (Γ : List Bd) (Q : Bool → Prop) : Prop where
  run : ∀ X, Good G M X → ∀ σ H S, σ.length = M.N.length → GRel G.K F Γ σ H S → tWt X e σ H (PostT G.K F Γ σ H S Q)
structure WW (G : Gd) (M : Nm) (F : Fx) (e : Expr) (Γ : List Bd) (Q : Bool → Prop) : Prop where
  run : ∀ X, Good G M X → ∀ σ H S, σ.length = M.N.length → GRel G.K F Γ σ H S → tWw X e σ H (PostT G.K F Γ σ H S Q)
structure WL (G : Gd) (M : Nm) (F : Fx) (es : List Expr) (Γ : List Bd) (Q : List PyData → Prop) : Prop where
  run : ∀ X, Good G M X → ∀ σ H S, σ.length = M.N.length → GRel G.K F Γ σ H S → tWa X es σ H (PostL G.K F Γ σ H S Q)
section
variable {K : PySem.W.Frag} {F : Fx} {Γ : List Bd} {σ : St} {H H1 S S1 : Hp} {v : V} {d : PyData}
theorem PostE.ahead {Q : PyData → Prop} {H' : Hp} (e : Same S S1) (k : Kq F H S H1 S1) (h : PostE K F Γ σ H1 S1 Q v H') : PostE K F Γ σ H S Q v H' := by
  obtain ⟨S', d, g, e', k', hd, q⟩ := h
  exact ⟨S', d, g, e.trans e', k.trans k', hd, q⟩
theorem PostB.ahead {Q : PyData → Prop} {H' : Hp} (e : Same S S1) (k : Kq F H S H1 S1) (h : PostB K F Γ σ H1 S1 Q v H') : PostB K F Γ σ H S Q v H' := by
  obtain ⟨S', d, g, e', k', hd, q⟩ := h
  exact ⟨S', d, g, e.trans e', k.trans k', hd, q⟩
theorem PostT.ahead {Q : Bool → Prop} {b : Bool} {H' : Hp} (e : Same S S1) (k : Kq F H S H1 S1) (h : PostT K F Γ σ H1 S1 Q b H') : PostT K F Γ σ H S Q b H' := by
  obtain ⟨S', g, e', k', q⟩ := h
  exact ⟨S', g, e.trans e', k.trans k', q⟩
theorem PostL.ahead {Q : List PyData → Prop} {vs : List V} {H' : Hp} (e : Same S S1) (k : Kq F H S H1 S1) (h : PostL K F Γ σ H1 S1 Q vs H') : PostL K F Γ σ H S Q vs H' := by
  obtain ⟨S', d, g, e', k', hd, q⟩ := h
  exact ⟨S', d, g, e.trans e', k.trans k', hd, q⟩
theorem Db.mono (h : Db K F H S v d) (e : Same S S1) (k : Kq F H S H1 S1) : Db K F H1 S1 v d := by
  rcases h with h | ⟨a, xs, ds, rfl, rfl, h1, h2, h3⟩
  · exact .inl (dp_mono e h)
  · exact .inr ⟨a, xs, ds, rfl, rfl, k.kp a _ h1 h2, h2, dpa_mono e h3⟩
theorem dp_ex (ex : Same S H) (h : Dp K S v d) : Dp K H v d := dp_mono ex h
theorem Db.dp (ex : Same S H) (h : Db K F H S v d) : Dp K H v d := by
  rcases h with h | ⟨a, xs, ds, rfl, rfl, h1, h2, h3⟩
  · exact dp_mono ex h
  · exact .lst (.inl (.inl h1)) (dpa_mono ex h3)
/-- a list's, a tuple's items -/
theorem Db.l {ds : List PyData} (ex : Same S H) (h : Db K F H S v (.list ds)) : ∃ a xs, v = .ref a ∧ SqL K H a xs ∧ DpAll K S xs ds := by
  rcases h with h | ⟨a, xs, es, rfl, e, h1, h2, h3⟩
  · cases h with | lst h1 h2 => exact ⟨_, _, rfl, same_l ex h1, h2⟩
  · cases e; exact ⟨a, xs, rfl, .inl (.inl h1), h3⟩
theorem Db.t {ds : List PyData} (ex : Same S H) (h : Db K F H S v (.tuple ds)) : ∃ a xs, v = .ref a ∧ SqT K H a xs ∧ DpAll K S xs ds := by
  rcases h with h | ⟨a, xs, es, _, e, _⟩
  · cases h with | tup h1 h2 => exact ⟨_, _, rfl, same_t ex h1, h2⟩
  · cases e
theorem Db.int {i : Int} (h : Db K F H S v (.int i)) : v = .int i := by
  rcases h with h | ⟨a, xs, es, _, e, _⟩
  · cases h; rfl
  · cases e
theorem Db.str {i : Str} (h : Db K F H S v (.str i)) : v = .str i := by
  rcases h with h | ⟨a, xs, es, _, e, _⟩
  · cases h; rfl
  · cases e
theorem Db.bl {i : Bool} (h : Db K F H S v (.bool i)) : v = .bl i := by
  rcases h with h | ⟨a, xs, es, _, e, _⟩
  · cases h; rfl
  · cases e
theorem Db.non (h : Db K F H S v .none) : v = .non := by
  rcases h with h | ⟨a, xs, es, _, e, _⟩
  · cases h; rfl
  · cases e
end

section
variable {G : Gd} {M : Nm} {F : Fx} {Γ : List Bd} {Q : PyData → Prop} {pos : Pos} {a b c e : Expr}
theorem wb_of (h : WE G M F e Γ Q) : WB G M F e Γ Q := ⟨fun X gd σ H S hl g => (h.run X gd σ H S hl g).mono fun v H' ⟨S', d, g', e', k, hd, q⟩ => ⟨S', d, g', e', k, .inl hd, q⟩⟩
theorem we_mono {Q' : PyData → Prop} (h : WE G M F e Γ Q) (k : ∀ d, Q d → Q' d) : WE G M F e Γ Q' := ⟨fun X gd σ H S hl g => (h.run X gd σ H S hl g).mono fun v H' ⟨S', d, g', e', k', hd, q⟩ => ⟨S', d, g', e', k', hd, k d q⟩⟩
theorem wb_mono {Q' : PyData → Prop} (h : WB G M F e Γ Q) (k : ∀ d, Q d → Q' d) : WB G M F e Γ Q' := ⟨fun X gd σ H S hl g => (h.run X gd σ H S hl g).mono fun v H' ⟨S', d, g', e', k', hd, q⟩ => ⟨S', d, g', e', k', hd, k d q⟩⟩
theorem wt_mono {Q Q' : Bool → Prop} (h : WT G M F e Γ Q) (k : ∀ d, Q d → Q' d) : WT G M F e Γ Q' := ⟨fun X gd σ H S hl g => (h.run X gd σ H S hl g).mono fun v H' ⟨S', g', e', k', q⟩ => ⟨S', g', e', k', k v q⟩⟩
/-- a def's call of values: what stands behind (a fresh thing that stays) -/
theorem PostE.here {K : PySem.W.Frag} {σ : St} {H S : Hp} {v : V} {d : PyData} (g : GRel K F Γ σ H S) (h : Dp K S v d) (q : Q d) : PostE K F Γ σ H S Q v H := ⟨S, d, g, Same.refl S, Kq.refl H S, h, q⟩
theorem PostE.newL {K : PySem.W.Frag} {σ : St} {H S : Hp} {p : Addr} {xs : List V} {ds : List PyData} (g : GRel K F Γ σ H S) (hp : H p = none) (h : DpAll K S xs ds) (q : Q (.list ds)) : PostE K F Γ σ H S Q (.ref p) (upd H p (.lst xs)) :=
  ⟨_, _, g.new _ hp, same_new (g.sNone hp), Kq.new hp, .lst (.inl (.inl upd_same)) (dpa_mono (same_new (g.sNone hp)) h), q⟩
theorem PostE.newT {K : PySem.W.Frag} {σ : St} {H S : Hp} {p : Addr} {xs : List V} {ds : List PyData} (g : GRel K F Γ σ H S) (hp : H p = none) (h : DpAll K S xs ds) (q : Q (.tuple ds)) : PostE K F Γ σ H S Q (.ref p) (upd H p (.tup xs)) :=
  ⟨_, _, g.new _ hp, same_new (g.sNone hp), Kq.new hp, .tup (.inl (.inl upd_same)) (dpa_mono (same_new (g.sNone hp)) h), q⟩

/-! ### names, constants -/
theorem we_var (i : Nat) {x : Str} {d : PyData} (hn : Rdb M i x) (hg : Γ[i]? = some (Bd.im d)) (h : Q d) : WE G M F (.Name x pos) Γ Q := by
  refine ⟨fun X gd σ H S hl g => ?_⟩
  obtain ⟨v, h1, h2⟩ := g.loc i d hg
  exact tW.of (pe_var (gd.at hn.1) (gd.vis hn) hn.2.2.1 hn.2.2.2) ⟨v, h1, PostE.here g h2 h⟩
theorem wb_mu (i : Nat) {x : Str} {ds : List PyData} (hn : Rdb M i x) (hg : Γ[i]? = some (Bd.mu ds)) (h : Q (.list ds)) : WB G M F (.Name x pos) Γ Q := by
  refine ⟨fun X gd σ H S hl g => ?_⟩
  obtain ⟨p, xs, h1, h2, h3, h4, h5⟩ := g.own i ds hg
  refine tW.of (pe_var (gd.at hn.1) (gd.vis hn) hn.2.2.1 hn.2.2.2) ⟨.ref p, h1, S, _, g, Same.refl S, Kq.refl H S, .inr ⟨p, xs, ds, rfl, rfl, h2, fun e => ?_, h5⟩, h⟩
  obtain ⟨_, ⟨o, q⟩, _⟩ := g.bag p e
  rw [h4] at q; cases q
theorem we_int {i : Int} {j : Nat} (h : Q (.int i)) : WE G M F (.Constant (.int i) j pos) Γ Q := ⟨fun X gd σ H S hl g => tW.of pe_int (PostE.here g (.int i) h)⟩
theorem we_bool {i : Bool} {j : Nat} (h : Q (.bool i)) : WE G M F (.Constant (.bool i) j pos) Γ Q := ⟨fun X gd σ H S hl g => tW.of pe_bl (PostE.here g (.bl i) h)⟩
theorem we_none {j : Nat} (h : Q .none) : WE G M F (.Constant .none j pos) Γ Q := ⟨fun X gd σ H S hl g => tW.of pe_non (PostE.here g .non h)⟩
theorem we_str {i : Str} {j : Nat} (h : Q (.str i)) : WE G M F (.Constant (.str i) j pos) Γ Q := ⟨fun X gd σ H S hl g => tW.of pe_str (PostE.here g (.str i) h)⟩

/-! ### two operands -/
theorem two {R : PyData → PyData → Prop} (h : WB G M F a Γ fun d => WB G M F b Γ fun e => R d e) {X : Cx} (gd : Good G M X) {σ : St} {H S : Hp} (hl : σ.length = M.N.length) (g : GRel G.K F Γ σ H S) {T : V → V → Hp → Prop}
    (k : ∀ x y H2 S2 d e, GRel G.K F Γ σ H2 S2 → Same S S2 → Kq F H S H2 S2 → Db G.K F H2 S2 x d → Db G.K F H2 S2 y e → R d e → T x y H2) : tW X a σ H fun x H1 => tW X b σ H1 fun y H2 => T x y H2 :=
  (h.run X gd σ H S hl g).mono fun x H1 ⟨S1, d, g1, e1, k1, hd, q⟩ => (q.run X gd σ H1 S1 hl g1).mono fun y H2 ⟨S2, e, g2, e2, k2, he, r⟩ =>
    k x y H2 S2 d e g2 (e1.trans e2) (k1.trans k2) (hd.mono e2 k2) he r
theorem OpR.or {X : Cx} {f : Value → Value → Sem Value} {r r' : R2} (h : OpR X f r) (h' : OpR X f r') : OpR X f fun x y H Q => r x y H Q ∨ r' x y H Q := by
  intro pins s σ H x y v u Q I rx ry q
  rcases q with q | q
  · exact h pins s σ H x y v u Q I rx ry q
  · exact h' pins s σ H x y v u Q I rx ry q
/-- list + list -/
def rCatS (K : PySem.W.Frag) : R2 := fun x y H Q => ∃ l b xs zs, x = .ref l ∧ y = .ref b ∧ SqL K H l xs ∧ SqL K H b zs ∧ xs.length + zs.length ≤ sizeLine ∧ ∀ p, H p = none → Q (.ref p) (upd H p (.lst (xs ++ zs)))
theorem op_catS {X : Cx} : OpR X (binaryOp .Add) (rCatS X.K) := by
  intro pins s σ H x y v u Q I rx ry h
  obtain ⟨l, b, xs, zs, rfl, rfl, hH, hB, hz, q⟩ := h
  cases rx
  cases ry
  obtain ⟨i1, r1, p1, _⟩ := I.list hH
  obtain ⟨i2, r2, p2, _⟩ := I.list hB
  obtain ⟨⟨c1, d1, t1, s1⟩, e1, ec1, n1, et1⟩ := p1.isList
  obtain ⟨⟨c2, d2, t2, s2⟩, e2, ec2, n2, et2⟩ := p2.isList
  simp only at ec1 et1 ec2 et2
  subst ec1 et1 ec2 et2
  have l1 := r1.length
  have l2 := r2.length
  have es : i1.toArray ++ i2.toArray = (i1 ++ i2).toArray := by simp
  refine concat_meets ⟨_, e1, rfl⟩ ⟨_, e2, rfl⟩ noFill_list_add seq_list_add PySem.F.slot_list_add PySem.F.entry_list_add (PySem.F.args_list_add_2 _ _) (PyProof.Rows.list_addW l b i1.toArray i2.toArray n1 n2 d1 d2 s1 s2 (by simp; omega)) ⟨e1, e2, ?_⟩
  rw [es]
  refine ⟨.ref s.heap.objs.size, _, I.laid (t' := s.toks) (o := .lst (xs ++ zs)) (fun b o e => Heap.get?_push_of_some _ e) (Nat.le_refl _) ?_, rfl, q _ (I.hok.fresh (Nat.le_refl _))⟩
  exact ⟨by rw [List.length_append]; exact hz, i1 ++ i2, 0, r1.append r2, Heap.get?_push_size _ rfl⟩
end
end DW

namespace DW
open PySem PySem.Spec L2
open PyProof.Rows hiding St
section
variable {G : Gd} {M : Nm} {F : Fx} {Γ : List Bd} {Q : PyData → Prop} {pos : Pos} {a b c e : Expr}

/-! ### operators -/
theorem we_bin {op : Operator} {r : Hp → R2} (ho : ∀ X, Good G M X → OpR X (binaryOp op) fun x y H Q => r H x y H Q) {R : PyData → PyData → Prop} (h : WB G M F a Γ fun d => WB G M F b Γ fun e => R d e)
    (k : ∀ {σ : St} {H S : Hp} {x y : V} {d e : PyData}, GRel G.K F Γ σ H S → Db G.K F H S x d → Db G.K F H S y e → R d e → ∀ Q' : VK, (∀ v H', PostE G.K F Γ σ H S Q v H' → Q' v H') → r H x y H Q') : WE G M F (.BinOp a op b pos) Γ Q := by
  refine ⟨fun X gd σ H S hl g => ?_⟩
  refine tW.of (pe_op (ho X gd) (pe_w a) (pe_w b)) ?_
  exact two h gd hl g fun x y H2 S2 d e g2 e2 k2 hd he r' => k g2 hd he r' _ fun v H' p => p.ahead e2 k2
def lim : Nat := sizeLine
theorem lim_eq : lim = 16777216 := sizeLine_eq
def AddD : PyData → PyData → (PyData → Prop) → Prop
  | .int i, .int j, Q => Q (.int (i + j))
  | .str x, .str y, Q => x.length + y.length ≤ lim ∧ Q (.str (x ++ y))
  | .list xs, .list ys, Q => xs.length + ys.length ≤ lim ∧ Q (.list (xs ++ ys))
  | .tuple xs, .tuple ys, Q => xs.length + ys.length ≤ lim ∧ Q (.tuple (xs ++ ys))
  | _, _, _ => False
def rAddU (K : PySem.W.Frag) : R2 := fun x y H Q => (rI0 (fun i j => .int (i + j)) x y H Q ∨ (∃ i j, x = .str i ∧ y = .str j ∧ i.length + j.length ≤ sizeLine ∧ Q (.str (i ++ j)) H)) ∨ (rCatS K x y H Q ∨ rCatA K x y H Q)
theorem we_add (h : WB G M F a Γ fun d => WB G M F b Γ fun e => AddD d e Q) : WE G M F (.BinOp a .Add b pos) Γ Q := by
  refine we_bin (r := fun _ => rAddU G.K) (fun X gd => by rw [← gd.K]; exact (op_add.or op_add_str).or (op_catS.or op_catA)) h ?_
  intro σ H S x y d e g hd he r Q' k
  cases d with
  | int i =>
    cases e <;> try exact r.elim
    rw [hd.int, he.int]
    exact .inl (.inl ⟨_, _, rfl, rfl, k _ _ (PostE.here g (.int _) r)⟩)
  | str i =>
    cases e <;> try exact r.elim
    rw [hd.str, he.str]
    exact .inl (.inr ⟨_, _, rfl, rfl, r.1, k _ _ (PostE.here g (.str _) r.2)⟩)
  | list xs =>
    cases e <;> try exact r.elim
    obtain ⟨p, us, rfl, s1, d1⟩ := hd.l g.ex
    obtain ⟨q, ws, rfl, s2, d2⟩ := he.l g.ex
    exact .inr (.inl ⟨p, q, us, ws, rfl, rfl, s1, s2, by rw [d1.len, d2.len]; exact r.1, fun t ht => k _ _ (PostE.newL g ht (d1.app d2) r.2)⟩)
  | tuple xs =>
    cases e <;> try exact r.elim
    obtain ⟨p, us, rfl, s1, d1⟩ := hd.t g.ex
    obtain ⟨q, ws, rfl, s2, d2⟩ := he.t g.ex
    have dp : ∀ {t : Addr} {zs : List V} {ds : List PyData}, Db G.K F H S (.ref t) (.tuple ds) → Dp G.K S (.ref t) (.tuple ds) := fun {t zs ds} h => by
      rcases h with h | ⟨_, _, _, _, z, _⟩
      · exact h
      · cases z
    refine .inr (.inr ⟨p, q, us, ws, rfl, rfl, s1, s2, by rw [d1.len, d2.len]; exact r.1, fun z => k _ _ ?_, fun _ z => k _ _ ?_, fun _ _ t ht => k _ _ (PostE.newT g ht (d1.app d2) r.2)⟩)
    · subst z
      cases d1
      exact PostE.here g (dp (zs := []) he) (by have := r.2; rwa [List.nil_append] at this)
    · subst z
      cases d2
      exact PostE.here g (dp (zs := []) hd) (by have := r.2; rwa [List.append_nil] at this)
  | _ => exact r.elim
def SubD : PyData → PyData → (PyData → Prop) → Prop
  | .int i, .int j, Q => Q (.int (i - j))
  | _, _, _ => False
theorem we_sub (h : WB G M F a Γ fun d => WB G M F b Γ fun e => SubD d e Q) : WE G M F (.BinOp a .Sub b pos) Γ Q := by
  refine we_bin (r := fun _ => rI0 (fun i j => .int (i - j))) (fun X gd => op_sub) h ?_
  intro σ H S x y d e g hd he r Q' k
  cases d <;> try exact r.elim
  cases e <;> try exact r.elim
  rw [hd.int, he.int]
  exact ⟨_, _, rfl, rfl, k _ _ (PostE.here g (.int _) r)⟩
def big : Nat := 400000
def Big : Nat := 2 ^ big
def MulOk (i j : Int) : Prop := (-(2 ^ 64) < i ∧ i < 2 ^ 64) ∨ (-(2 ^ 64) < j ∧ j < 2 ^ 64) ∨ (i.natAbs < Big ∧ j.natAbs < Big)
theorem MulOk.ok {i j : Int} (h : MulOk i j) : IntMulOk i j := by
  rcases h with h | h | ⟨h1, h2⟩
  · exact CMul.ok (.inl h)
  · exact CMul.ok (.inr h)
  · exact CMulW.ok (wide_mul (a := big) (b := big) h1 h2 (by decide) (by decide) (by decide))
theorem tupleMulOne (l : Addr) (items : Array Value) (n : Nat) (sl : Array (Option Value)) (dd : Option Addr) (u : Tok) :
    Meets (Builtin.«tuple.__mul__» ⟨[.ref l, .int 1 u], []⟩) (fun _ R s => s.heap.get? l = some { cls := .type "tuple", dict := dd, data := .seq items n, slots := sl } ∧ R (.ok (.ret (Value.ref l))) s) :=
  .of_wp fun prog w A R s h => by
    obtain ⟨hp, g, d, tk, os⟩ := s
    obtain ⟨hl, h⟩ := h
    have f1 := AutoSeq1.idx_int
    wp_walk using wpAny_loadPart' hl
    repeat (first
      | (refine wpAny_ite_false (decide_eq_false (by decide)) ?_; wp_walk using wpAny_loadPart' hl)
      | (refine wpAny_ite_true (decide_eq_true (by simp)) ?_; wp_walk using wpAny_loadPart' hl))
    exact ⟨_, rfl, h⟩
def rRepOne (K : PySem.W.Frag) : R2 := fun x y H Q => ∃ l xs, x = .ref l ∧ y = .int 1 ∧ SqT K H l xs ∧ Q (.ref l) H
theorem op_repOne {X : Cx} : OpR X (binaryOp .Mult) (rRepOne X.K) := by
  intro pins s σ H x y v u Q I rx ry h
  obtain ⟨l, xs, rfl, rfl, hT, q⟩ := h
  cases rx
  obtain ⟨t, rfl⟩ := ry
  obtain ⟨its, r, ⟨⟨cls, dd, data, sl⟩, ho, hc, n, hd⟩, hs⟩ := I.tuple hT
  simp only at hc hd
  subst hc hd
  refine wpAny_binaryOp_repeat_ref (T := "tuple") (U := "int") (by decide) ⟨_, ho, rfl⟩ (fun s' => typeIs_int s' 1 t) noFill_tuple_mul F.fills_int_mul F.slot_int_rmul repeat_tuple F.slot_int_index.lookup
    (call_meets F.slot_int_rmul (typeIs_int s 1 t) F.entry_int_rmul (F.args_int_rmul_2 _ _) (int_rmul_tuple 1 t l its.toArray n dd sl)
      ⟨ho, rfl, ⟨_, ho, rfl⟩, call_meets F.slot_tuple_mul ⟨_, ho, rfl⟩ F.entry_tuple_mul (F.args_tuple_mul_2 _ _) (tupleMulOne l its.toArray n sl dd t) ⟨ho, ?_⟩⟩)
  exact ⟨.ref l, _, I, rfl, q⟩
def MulD : PyData → PyData → (PyData → Prop) → Prop
  | .int i, .int j, Q => MulOk i j ∧ Q (.int (i * j))
  | .tuple xs, .int k, Q => xs ≠ [] ∧ 1 ≤ k ∧ k ≤ 1000 ∧ xs.length ≤ 1000 ∧ Q (.tuple (List.replicate k.toNat xs).flatten)
  | _, _, _ => False
theorem op_mulA {X : Cx} : OpR X (binaryOp .Mult) (rI MulOk fun i j => .int (i * j)) := opI fun _ _ _ _ _ _ _ hc q => mul_int q hc.ok
theorem DpAll.rep {K : PySem.W.Frag} {S : Hp} {vs : List V} {ds : List PyData} (h : DpAll K S vs ds) : ∀ n : Nat, DpAll K S (List.replicate n vs).flatten (List.replicate n ds).flatten
  | 0 => .nil
  | n + 1 => by
    rw [List.replicate_succ, List.replicate_succ, List.flatten_cons, List.flatten_cons]
    exact h.app (DpAll.rep h n)
theorem we_mul (h : WB G M F a Γ fun d => WB G M F b Γ fun e => MulD d e Q) : WE G M F (.BinOp a .Mult b pos) Γ Q := by
  refine we_bin (r := fun _ x y H Q => rI MulOk (fun i j => .int (i * j)) x y H Q ∨ (rRepT G.K x y H Q ∨ rRepOne G.K x y H Q)) (fun X gd => by rw [← gd.K]; exact op_mulA.or (op_repT.or op_repOne)) h ?_
  intro σ H S x y d e g hd he r Q' k
  cases d <;> try exact r.elim
  · cases e <;> try exact r.elim
    rw [hd.int, he.int]
    exact .inl ⟨_, _, rfl, rfl, r.1, k _ _ (PostE.here g (.int _) r.2)⟩
  · cases e <;> try exact r.elim
    obtain ⟨r1, r2, r3, r4, r5⟩ := r
    obtain ⟨p, us, rfl, s1, d1⟩ := hd.t g.ex
    rw [he.int]
    rename_i kk
    by_cases h1 : kk = 1
    · subst h1
      refine .inr (.inr ⟨p, us, rfl, rfl, s1, k _ _ (PostE.here g ?_ r5)⟩)
      rcases hd with hd | ⟨_, _, _, _, z, _⟩
      · simpa using hd
      · cases z
    refine .inr <| .inl ⟨p, _, us, rfl, rfl, s1, fun z => r1 ?_, by omega, r3, by rw [d1.len]; exact r4, fun t ht => k _ _ (PostE.newT g ht (DpAll.rep d1 _) r5)⟩
    subst z
    cases d1
    rfl
/-- //: a small divisor that is not 0, or one above 0 and below 2^9000 -/
def DivOk (j : Int) : Prop := j ≠ 0 ∧ j.natAbs.log2 < 9000
theorem op_fdivA {X : Cx} : OpR X (binaryOp .FloorDiv) (rI (fun _ j => DivOk j) fun i j => .int (i.fdiv j)) := opI fun _ _ _ _ _ _ _ hc q => floordiv_int hc.1 q (.inl (PyProof.noPylong_of_log2 hc.2))
def FDivD : PyData → PyData → (PyData → Prop) → Prop
  | .int i, .int j, Q => DivOk j ∧ Q (.int (i.fdiv j))
  | _, _, _ => False
theorem we_fdiv (h : WB G M F a Γ fun d => WB G M F b Γ fun e => FDivD d e Q) : WE G M F (.BinOp a .FloorDiv b pos) Γ Q := by
  refine we_bin (r := fun _ => rI (fun _ j => DivOk j) fun i j => .int (i.fdiv j)) (fun X gd => op_fdivA) h ?_
  intro σ H S x y d e g hd he r Q' k
  cases d <;> try exact r.elim
  cases e <;> try exact r.elim
  rw [hd.int, he.int]
  exact ⟨_, _, rfl, rfl, r.1, k _ _ (PostE.here g (.int _) r.2)⟩
def ModD : PyData → PyData → (PyData → Prop) → Prop
  | .int i, .int j, Q => 0 < j ∧ Q (.int (i % j))
  | _, _, _ => False
theorem we_mod (h : WB G M F a Γ fun d => WB G M F b Γ fun e => ModD d e Q) : WE G M F (.BinOp a .Mod b pos) Γ Q := by
  refine we_bin (r := fun _ => rI (fun _ j => 0 < j) fun i j => .int (i % j)) (fun X gd => op_mod) h ?_
  intro σ H S x y d e g hd he r Q' k
  cases d <;> try exact r.elim
  cases e <;> try exact r.elim
  rw [hd.int, he.int]
  exact ⟨_, _, rfl, rfl, r.1, k _ _ (PostE.here g (.int _) r.2)⟩
def PowD : PyData → PyData → (PyData → Prop) → Prop
  | .int i, .int j, Q => (0 ≤ j ∧ j ≤ 1000000 ∧ i.natAbs < 2 ^ 64) ∧ Q (.int (i ^ j.toNat))
  | _, _, _ => False
theorem we_pow (h : WB G M F a Γ fun d => WB G M F b Γ fun e => PowD d e Q) : WE G M F (.BinOp a .Pow b pos) Γ Q := by
  refine we_bin (r := fun _ => rI CPow fun i j => .int (i ^ j.toNat)) (fun X gd => op_pow) h ?_
  intro σ H S x y d e g hd he r Q' k
  cases d <;> try exact r.elim
  cases e <;> try exact r.elim
  rw [hd.int, he.int]
  exact ⟨_, _, rfl, rfl, r.1, k _ _ (PostE.here g (.int _) r.2)⟩
def NegD : PyData → (PyData → Prop) → Prop
  | .int i, Q => Q (.int (-i))
  | _, _ => False
theorem we_neg (h : WB G M F a Γ fun d => NegD d Q) : WE G M F (.UnaryOp .USub a pos) Γ Q := by
  refine ⟨fun X gd σ H S hl g => tW.of (pe_un un_neg (pe_w a)) ((h.run X gd σ H S hl g).mono fun x H1 ⟨S1, d, g1, e1, k1, hd, q⟩ => ?_)⟩
  cases d <;> try exact q.elim
  rw [hd.int]
  exact ⟨_, rfl, (PostE.here g1 (.int _) q).ahead e1 k1⟩

/-! ### comparisons -/
/-- by values, as a value and as a test -/
theorem we_cmp {op : CmpOp} {r : R2} (ho : ∀ X, Good G M X → OpR X (compareOp op) r) {R : PyData → PyData → Prop} {Qb : Bool → Prop} (h : WB G M F a Γ fun d => WB G M F b Γ fun e => R d e)
    (k : ∀ {σ : St} {H S : Hp} {x y : V} {d e : PyData}, GRel G.K F Γ σ H S → Db G.K F H S x d → Db G.K F H S y e → R d e → ∀ Q' : VK, (∀ c, Qb c → Q' (.bl c) H) → r x y H Q') (hm : behindInMarks op b = false) (hq : ∀ c, Qb c → Q (.bool c)) : WE G M F (.Compare a [op] [b] pos) Γ Q := by
  refine ⟨fun X gd σ H S hl g => tW.of (pe_cmpR (ho X gd) (pe_w a) (pe_w b) hm) ?_⟩
  exact two h gd hl g fun x y H2 S2 d e g2 e2 k2 hd he r' => k g2 hd he r' _ fun c p => (PostE.here g2 (.bl c) (hq c p)).ahead e2 k2
theorem wt_cmp {op : CmpOp} {r : R2} (ho : ∀ X, Good G M X → OpR X (compareOp op) r) {R : PyData → PyData → Prop} {Qb : Bool → Prop} (h : WB G M F a Γ fun d => WB G M F b Γ fun e => R d e)
    (k : ∀ {σ : St} {H S : Hp} {x y : V} {d e : PyData}, GRel G.K F Γ σ H S → Db G.K F H S x d → Db G.K F H S y e → R d e → ∀ Q' : VK, (∀ c, Qb c → Q' (.bl c) H) → r x y H Q') (hm : behindInMarks op b = false) : WT G M F (.Compare a [op] [b] pos) Γ Qb := by
  refine ⟨fun X gd σ H S hl g => tWt.of (pt_cmpR (ho X gd) (pe_w a) (pe_w b) hm) ?_⟩
  exact two h gd hl g fun x y H2 S2 d e g2 e2 k2 hd he r' => k g2 hd he r' _ fun c p => ⟨c, rfl, PostT.ahead e2 k2 ⟨S2, g2, Same.refl S2, Kq.refl H2 S2, p⟩⟩
def LtD : PyData → PyData → (Bool → Prop) → Prop
  | .int i, .int j, Q => Q (decide (i < j))
  | _, _, _ => False
def LeD : PyData → PyData → (Bool → Prop) → Prop
  | .int i, .int j, Q => Q (decide (i ≤ j))
  | _, _, _ => False
theorem k_lt {H S : Hp} {x y : V} {d e : PyData} {Qb : Bool → Prop} (hd : Db G.K F H S x d) (he : Db G.K F H S y e) (r : LtD d e Qb) (Q' : VK) (k : ∀ c, Qb c → Q' (.bl c) H) : rI0 (fun i j => .bl (decide (i < j))) x y H Q' := by
  cases d <;> try exact r.elim
  cases e <;> try exact r.elim
  rw [hd.int, he.int]
  exact ⟨_, _, rfl, rfl, k _ r⟩
theorem k_le {H S : Hp} {x y : V} {d e : PyData} {Qb : Bool → Prop} (hd : Db G.K F H S x d) (he : Db G.K F H S y e) (r : LeD d e Qb) (Q' : VK) (k : ∀ c, Qb c → Q' (.bl c) H) : rI0 (fun i j => .bl (decide (i ≤ j))) x y H Q' := by
  cases d <;> try exact r.elim
  cases e <;> try exact r.elim
  rw [hd.int, he.int]
  exact ⟨_, _, rfl, rfl, k _ r⟩
theorem k_gt {H S : Hp} {x y : V} {d e : PyData} {Qb : Bool → Prop} (hd : Db G.K F H S x d) (he : Db G.K F H S y e) (r : LtD e d Qb) (Q' : VK) (k : ∀ c, Qb c → Q' (.bl c) H) : rI0 (fun i j => .bl (decide (j < i))) x y H Q' := by
  cases e <;> try exact r.elim
  cases d <;> try exact r.elim
  rw [hd.int, he.int]
  exact ⟨_, _, rfl, rfl, k _ r⟩
theorem k_ge {H S : Hp} {x y : V} {d e : PyData} {Qb : Bool → Prop} (hd : Db G.K F H S x d) (he : Db G.K F H S y e) (r : LeD e d Qb) (Q' : VK) (k : ∀ c, Qb c → Q' (.bl c) H) : rI0 (fun i j => .bl (decide (j ≤ i))) x y H Q' := by
  cases e <;> try exact r.elim
  cases d <;> try exact r.elim
  rw [hd.int, he.int]
  exact ⟨_, _, rfl, rfl, k _ r⟩
variable {Qb : Bool → Prop}
theorem we_lt (h : WB G M F a Γ fun d => WB G M F b Γ fun e => LtD d e fun c => Q (.bool c)) : WE G M F (.Compare a [.Lt] [b] pos) Γ Q := we_cmp (fun X gd => op_lt) h (fun _ hd he r => k_lt hd he r) (nomark _) fun _ q => q
theorem wt_lt (h : WB G M F a Γ fun d => WB G M F b Γ fun e => LtD d e Qb) : WT G M F (.Compare a [.Lt] [b] pos) Γ Qb := wt_cmp (fun X gd => op_lt) h (fun _ hd he r => k_lt hd he r) (nomark _)
theorem we_le (h : WB G M F a Γ fun d => WB G M F b Γ fun e => LeD d e fun c => Q (.bool c)) : WE G M F (.Compare a [.LtE] [b] pos) Γ Q := we_cmp (fun X gd => op_le) h (fun _ hd he r => k_le hd he r) (nomark _) fun _ q => q
theorem wt_le (h : WB G M F a Γ fun d => WB G M F b Γ fun e => LeD d e Qb) : WT G M F (.Compare a [.LtE] [b] pos) Γ Qb := wt_cmp (fun X gd => op_le) h (fun _ hd he r => k_le hd he r) (nomark _)
theorem we_gt (h : WB G M F a Γ fun d => WB G M F b Γ fun e => LtD e d fun c => Q (.bool c)) : WE G M F (.Compare a [.Gt] [b] pos) Γ Q := we_cmp (fun X gd => op_gt) h (fun _ hd he r => k_gt hd he r) (nomark _) fun _ q => q
theorem wt_gt (h : WB G M F a Γ fun d => WB G M F b Γ fun e => LtD e d Qb) : WT G M F (.Compare a [.Gt] [b] pos) Γ Qb := wt_cmp (fun X gd => op_gt) h (fun _ hd he r => k_gt hd he r) (nomark _)
theorem we_ge (h : WB G M F a Γ fun d => WB G M F b Γ fun e => LeD e d fun c => Q (.bool c)) : WE G M F (.Compare a [.GtE] [b] pos) Γ Q := we_cmp (fun X gd => op_ge) h (fun _ hd he r => k_ge hd he r) (nomark _) fun _ q => q
theorem wt_ge (h : WB G M F a Γ fun d => WB G M F b Γ fun e => LeD e d Qb) : WT G M F (.Compare a [.GtE] [b] pos) Γ Qb := wt_cmp (fun X gd => op_ge) h (fun _ hd he r => k_ge hd he r) (nomark _)
/-- == -/
def EqD : PyData → PyData → (Bool → Prop) → Prop
  | .int i, .int j, Q => Q (decide (i = j))
  | .str i, .str j, Q => Q (decide (i = j))
  | .bool i, .bool j, Q => Q (decide (i = j))
  | d, e, Q => SeqAt.shaped d = true ∧ SeqAt.shaped e = true ∧ Q (PyData.eqv d e)
theorem k_eq {H S : Hp} {x y : V} {d e : PyData} {Qb : Bool → Prop} (ex : Same S H) (hd : Db G.K F H S x d) (he : Db G.K F H S y e) (r : EqD d e Qb) (Q' : VK) (k : ∀ c, Qb c → Q' (.bl c) H) : rEq x y H Q' ∨ rEqD G.K x y H Q' := by
  unfold EqD at r
  split at r
  · rw [hd.int, he.int]
    refine .inl ⟨rfl, k _ ?_⟩
    have : ∀ i j : Int, decide (V.int i = V.int j) = decide (i = j) := fun i j => by rw [decide_eq_decide]; exact ⟨fun z => V.int.inj z, fun z => by rw [z]⟩
    rw [this]; exact r
  · rw [hd.str, he.str]
    refine .inl ⟨rfl, k _ ?_⟩
    have : ∀ i j : Str, decide (V.str i = V.str j) = decide (i = j) := fun i j => by rw [decide_eq_decide]; exact ⟨fun z => V.str.inj z, fun z => by rw [z]⟩
    rw [this]; exact r
  · rw [hd.bl, he.bl]
    refine .inl ⟨rfl, k _ ?_⟩
    have : ∀ i j : Bool, decide (V.bl i = V.bl j) = decide (i = j) := fun i j => by rw [decide_eq_decide]; exact ⟨fun z => V.bl.inj z, fun z => by rw [z]⟩
    rw [this]; exact r
  · exact .inr ⟨_, _, hd.dp ex, he.dp ex, r.1, r.2.1, k _ r.2.2⟩
theorem k_ne {H S : Hp} {x y : V} {d e : PyData} {Qb : Bool → Prop} (ex : Same S H) (hd : Db G.K F H S x d) (he : Db G.K F H S y e) (r : EqD d e fun c => Qb (!c)) (Q' : VK) (k : ∀ c, Qb c → Q' (.bl c) H) : rNe x y H Q' ∨ rNeD G.K x y H Q' := by
  unfold EqD at r
  split at r
  · rw [hd.int, he.int]
    refine .inl ⟨rfl, k _ ?_⟩
    have : ∀ i j : Int, decide (V.int i = V.int j) = decide (i = j) := fun i j => by rw [decide_eq_decide]; exact ⟨fun z => V.int.inj z, fun z => by rw [z]⟩
    rw [this]; exact r
  · rw [hd.str, he.str]
    refine .inl ⟨rfl, k _ ?_⟩
    have : ∀ i j : Str, decide (V.str i = V.str j) = decide (i = j) := fun i j => by rw [decide_eq_decide]; exact ⟨fun z => V.str.inj z, fun z => by rw [z]⟩
    rw [this]; exact r
  · rw [hd.bl, he.bl]
    refine .inl ⟨rfl, k _ ?_⟩
    have : ∀ i j : Bool, decide (V.bl i = V.bl j) = decide (i = j) := fun i j => by rw [decide_eq_decide]; exact ⟨fun z => V.bl.inj z, fun z => by rw [z]⟩
    rw [this]; exact r
  · exact .inr ⟨_, _, hd.dp ex, he.dp ex, r.1, r.2.1, k _ r.2.2⟩
theorem op_eqA {X : Cx} (gd : Good G M X) : OpR X (compareOp .Eq) fun x y H Q => rEq x y H Q ∨ rEqD G.K x y H Q := by
  rw [← gd.K]; exact op_eq.or (op_eqD gd.room.units)
theorem op_neA {X : Cx} (gd : Good G M X) : OpR X (compareOp .NotEq) fun x y H Q => rNe x y H Q ∨ rNeD G.K x y H Q := by
  rw [← gd.K]; exact op_ne.or (op_neD gd.room.units)
theorem we_eq (h : WB G M F a Γ fun d => WB G M F b Γ fun e => EqD d e fun c => Q (.bool c)) : WE G M F (.Compare a [.Eq] [b] pos) Γ Q := we_cmp (fun X gd => op_eqA gd) h (fun g hd he r => k_eq g.ex hd he r) (nomark _) fun _ q => q
theorem wt_eq (h : WB G M F a Γ fun d => WB G M F b Γ fun e => EqD d e Qb) : WT G M F (.Compare a [.Eq] [b] pos) Γ Qb := wt_cmp (fun X gd => op_eqA gd) h (fun g hd he r => k_eq g.ex hd he r) (nomark _)
theorem we_ne (h : WB G M F a Γ fun d => WB G M F b Γ fun e => EqD d e fun c => Q (.bool (!c))) : WE G M F (.Compare a [.NotEq] [b] pos) Γ Q := we_cmp (Qb := fun c => Q (.bool c)) (fun X gd => op_neA gd) h (fun g hd he r => k_ne g.ex hd he r) (nomark _) fun _ q => q
theorem wt_ne (h : WB G M F a Γ fun d => WB G M F b Γ fun e => EqD d e fun c => Qb (!c)) : WT G M F (.Compare a [.NotEq] [b] pos) Γ Qb := wt_cmp (fun X gd => op_neA gd) h (fun g hd he r => k_ne g.ex hd he r) (nomark _)
/-- is None, is not None -/
def isNoneD : PyData → Bool
  | .none => true
  | _ => false
theorem k_isn {H S : Hp} {x y : V} {d e : PyData} {Qb : Bool → Prop} (hd : Db G.K F H S x d) (he : Db G.K F H S y e) (r : e = .none ∧ Qb (isNoneD d)) (Q' : VK) (k : ∀ c, Qb c → Q' (.bl c) H) : y = .non ∧ Q' (.bl (decide (x = .non))) H := by
  obtain ⟨rfl, r⟩ := r
  refine ⟨he.non, ?_⟩
  have : decide (x = .non) = isNoneD d := by
    rcases hd with h | ⟨_, _, _, rfl, rfl, _⟩
    · cases h <;> rfl
    · rfl
  rw [this]; exact k _ r
theorem k_notn {H S : Hp} {x y : V} {d e : PyData} {Qb : Bool → Prop} (hd : Db G.K F H S x d) (he : Db G.K F H S y e) (r : e = .none ∧ Qb (!isNoneD d)) (Q' : VK) (k : ∀ c, Qb c → Q' (.bl c) H) : y = .non ∧ Q' (.bl (!decide (x = .non))) H := by
  obtain ⟨rfl, r⟩ := r
  refine ⟨he.non, ?_⟩
  have : decide (x = .non) = isNoneD d := by
    rcases hd with h | ⟨_, _, _, rfl, rfl, _⟩
    · cases h <;> rfl
    · rfl
  rw [this]; exact k _ r
theorem wt_is (h : WB G M F a Γ fun d => WB G M F b Γ fun e => e = .none ∧ Qb (isNoneD d)) : WT G M F (.Compare a [.Is] [b] pos) Γ Qb := wt_cmp (fun X gd => op_isN) h (fun _ hd he r => k_isn hd he r) (nomark _)
theorem wt_isnot (h : WB G M F a Γ fun d => WB G M F b Γ fun e => e = .none ∧ Qb (!isNoneD d)) : WT G M F (.Compare a [.IsNot] [b] pos) Γ Qb := wt_cmp (fun X gd => op_notN) h (fun _ hd he r => k_notn hd he r) (nomark _)
/-- in, not in -/
def flatD : PyData → Bool
  | .none => true | .bool _ => true | .int _ => true | .str _ => true
  | _ => false
def InD (d : PyData) : PyData → (Bool → Prop) → Prop
  | .list ys, Q => ((flatD d = true ∧ ys.all flatD = true) ∨ (SeqAt.shaped d = true ∧ SeqAt.shaped (.list ys) = true)) ∧ Q (ys.any fun z => PyData.eqv z d)
  | .tuple ys, Q => (flatD d = true ∧ ys.all flatD = true) ∧ Q (ys.any fun z => PyData.eqv z d)
  | _, _ => False
theorem flat_v {K : PySem.W.Frag} {S : Hp} {v : V} {d : PyData} (h : Dp K S v d) (f : flatD d = true) : flatV v = true := by cases h <;> first | rfl | cases f
theorem flat_vs {K : PySem.W.Frag} {S : Hp} : ∀ {vs : List V} {ds : List PyData}, DpAll K S vs ds → ds.all flatD = true → vs.all flatV = true
  | _, _, .nil, _ => rfl
  | _, _, .cons h t, f => by
    rw [List.all_cons, Bool.and_eq_true] at f ⊢
    exact ⟨flat_v h f.1, flat_vs t f.2⟩
theorem eqv_v {K : PySem.W.Frag} {S : Hp} {v u : V} {d e : PyData} (h : Dp K S v d) (h' : Dp K S u e) (f : flatD d = true) (f' : flatD e = true) : eqV v u = PyData.eqv d e := by
  cases h <;> cases h' <;> first | rfl | cases f | cases f' | simp [eqV, PyData.eqv]
theorem inv_v {K : PySem.W.Frag} {S : Hp} {v : V} {d : PyData} (h : Dp K S v d) (f : flatD d = true) : ∀ {vs : List V} {ds : List PyData}, DpAll K S vs ds → ds.all flatD = true → inV v vs = ds.any fun z => PyData.eqv z d
  | _, _, .nil, _ => rfl
  | _, _, .cons h' t, f' => by
    rw [List.all_cons, Bool.and_eq_true] at f'
    show (List.any (_ :: _) _) = _
    rw [List.any_cons, List.any_cons, eqv_v h' h f'.1 f]
    congr 1
    exact inv_v h f t f'.2
theorem k_in {H S : Hp} {x y : V} {d e : PyData} {Qb : Bool → Prop} (ex : Same S H) (hd : Db G.K F H S x d) (he : Db G.K F H S y e) (r : InD d e Qb) (Q' : VK) (k : ∀ c, Qb c → Q' (.bl c) H) : rIn G.K false x y H Q' ∨ rInD G.K x y H Q' := by
  cases e <;> try exact r.elim
  · rcases r with ⟨⟨f1, f2⟩ | ⟨f1, f2⟩, r⟩
    · obtain ⟨p, xs, rfl, s1, d1⟩ := he.l ex
      have dd := hd.dp ex
      exact .inl ⟨p, xs, rfl, .inl s1, flat_v dd f1, flat_vs d1 f2, by
        rw [if_neg Bool.false_ne_true, inv_v dd f1 (dpa_mono ex d1) f2]; exact k _ r⟩
    · exact .inr ⟨d, _, hd.dp ex, he.dp ex, f1, f2, k _ r⟩
  · rcases r with ⟨⟨f1, f2⟩, r⟩
    obtain ⟨p, xs, rfl, s1, d1⟩ := he.t ex
    have dd := hd.dp ex
    exact .inl ⟨p, xs, rfl, .inr s1, flat_v dd f1, flat_vs d1 f2, by
        rw [if_neg Bool.false_ne_true, inv_v dd f1 (dpa_mono ex d1) f2]; exact k _ r⟩
theorem k_notin {H S : Hp} {x y : V} {d e : PyData} {Qb : Bool → Prop} (ex : Same S H) (hd : Db G.K F H S x d) (he : Db G.K F H S y e) (r : InD d e fun c => Qb (!c)) (Q' : VK) (k : ∀ c, Qb c → Q' (.bl c) H) : rIn G.K true x y H Q' ∨ rNotInD G.K x y H Q' := by
  cases e <;> try exact r.elim
  · rcases r with ⟨⟨f1, f2⟩ | ⟨f1, f2⟩, r⟩
    · obtain ⟨p, xs, rfl, s1, d1⟩ := he.l ex
      have dd := hd.dp ex
      exact .inl ⟨p, xs, rfl, .inl s1, flat_v dd f1, flat_vs d1 f2, by
        rw [if_pos rfl, inv_v dd f1 (dpa_mono ex d1) f2]; exact k _ r⟩
    · exact .inr ⟨d, _, hd.dp ex, he.dp ex, f1, f2, k _ r⟩
  · rcases r with ⟨⟨f1, f2⟩, r⟩
    obtain ⟨p, xs, rfl, s1, d1⟩ := he.t ex
    have dd := hd.dp ex
    exact .inl ⟨p, xs, rfl, .inr s1, flat_v dd f1, flat_vs d1 f2, by
        rw [if_pos rfl, inv_v dd f1 (dpa_mono ex d1) f2]; exact k _ r⟩
theorem op_inA {X : Cx} (gd : Good G M X) : OpR X (compareOp .In) fun x y H Q => rIn G.K false x y H Q ∨ rInD G.K x y H Q := by
  rw [← gd.K]; exact op_in_seq.or (op_inD (by have := gd.room.un; omega))
theorem op_notinA {X : Cx} (gd : Good G M X) : OpR X (compareOp .NotIn) fun x y H Q => rIn G.K true x y H Q ∨ rNotInD G.K x y H Q := by
  rw [← gd.K]; exact op_notIn_seq.or (op_notInD (by have := gd.room.un; omega))
theorem we_in (h : WB G M F a Γ fun d => WB G M F b Γ fun e => InD d e fun c => Q (.bool c)) (hm : behindInMarks .In b = false := by rfl) : WE G M F (.Compare a [.In] [b] pos) Γ Q := we_cmp (fun X gd => op_inA gd) h (fun g hd he r => k_in g.ex hd he r) hm fun _ q => q
theorem wt_in (h : WB G M F a Γ fun d => WB G M F b Γ fun e => InD d e Qb) (hm : behindInMarks .In b = false := by rfl) : WT G M F (.Compare a [.In] [b] pos) Γ Qb := wt_cmp (fun X gd => op_inA gd) h (fun g hd he r => k_in g.ex hd he r) hm
theorem we_notin (h : WB G M F a Γ fun d => WB G M F b Γ fun e => InD d e fun c => Q (.bool (!c))) (hm : behindInMarks .NotIn b = false := by rfl) : WE G M F (.Compare a [.NotIn] [b] pos) Γ Q := we_cmp (Qb := fun c => Q (.bool c)) (fun X gd => op_notinA gd) h (fun g hd he r => k_notin g.ex hd he r) hm fun _ q => q
theorem wt_notin (h : WB G M F a Γ fun d => WB G M F b Γ fun e => InD d e fun c => Qb (!c)) (hm : behindInMarks .NotIn b = false := by rfl) : WT G M F (.Compare a [.NotIn] [b] pos) Γ Qb := wt_cmp (fun X gd => op_notinA gd) h (fun g hd he r => k_notin g.ex hd he r) hm
end
end DW

namespace DW
open PySem PySem.Spec L2
open PyProof.Rows hiding St
section
variable {G : Gd} {M : Nm} {F : Fx} {Γ : List Bd} {Q : PyData → Prop} {Qb : Bool → Prop} {pos : Pos} {a b c e : Expr} {es : List Expr}

/-! ### tests -/
theorem wt_val (h : WE G M F e Γ fun d => ∃ c, d = .bool c ∧ Qb c) (he : ∀ env whole, isTrue e env whole = (do let v ← whole; standAt e.pos; holding [v] (truthy v)) := by intro _ _; rfl) : WT G M F e Γ Qb := by
  refine ⟨fun X gd σ H S hl g => tWt.of (pt_val (pe_w e) fun w => he X.env w) ((h.run X gd σ H S hl g).mono fun v H1 ⟨S1, d, g1, e1, k1, hd, c, ec, q⟩ => ?_)⟩
  subst ec
  cases hd
  exact ⟨c, rfl, S1, g1, e1, k1, q⟩
theorem wt_not (h : WT G M F e Γ fun c => Qb (!c)) : WT G M F (.UnaryOp .Not e pos) Γ Qb :=
  ⟨fun X gd σ H S hl g => tWt.of (pt_not (pt_w e)) ((h.run X gd σ H S hl g).mono fun c H1 p => p)⟩
theorem we_not (h : WE G M F e Γ fun d => ∃ c, d = .bool c ∧ Q (.bool (!c))) : WE G M F (.UnaryOp .Not e pos) Γ Q := by
  refine ⟨fun X gd σ H S hl g => tW.of (pe_not (pe_w e)) ((h.run X gd σ H S hl g).mono fun v H1 ⟨S1, d, g1, e1, k1, hd, c, ec, q⟩ => ?_)⟩
  subst ec
  cases hd
  exact ⟨c, rfl, (PostE.here g1 (.bl _) q).ahead e1 k1⟩
theorem wt_of_ww (h : WW G M F e Γ Qb) : WT G M F e Γ Qb := ⟨fun X gd σ H S hl g => tWt.of (PW.pt (pw_w e)) (h.run X gd σ H S hl g)⟩
theorem ww_and1 (h : WT G M F a Γ Qb) : WW G M F (.BoolOp .And [a] pos) Γ Qb := ⟨fun X gd σ H S hl g => tWw.of (pw_and1 (pt_w a)) (h.run X gd σ H S hl g)⟩
theorem ww_or1 (h : WT G M F a Γ Qb) : WW G M F (.BoolOp .Or [a] pos) Γ Qb := ⟨fun X gd σ H S hl g => tWw.of (pw_or1 (pt_w a)) (h.run X gd σ H S hl g)⟩
theorem ww_and (h : WT G M F a Γ fun x => (x = true → WW G M F (.BoolOp .And (b :: es) pos) Γ Qb) ∧ (x = false → Qb false)) : WW G M F (.BoolOp .And (a :: b :: es) pos) Γ Qb := by
  refine ⟨fun X gd σ H S hl g => tWw.of (pw_and (pt_w a) (pw_w _)) ((h.run X gd σ H S hl g).mono fun x H1 ⟨S1, g1, e1, k1, q1, q2⟩ => ?_)⟩
  cases x with
  | true => rw [if_pos rfl]; exact ((q1 rfl).run X gd σ H1 S1 hl g1).mono fun c H2 p => p.ahead e1 k1
  | false => rw [if_neg Bool.false_ne_true]; exact ⟨S1, g1, e1, k1, q2 rfl⟩
theorem ww_or (h : WT G M F a Γ fun x => (x = false → WW G M F (.BoolOp .Or (b :: es) pos) Γ Qb) ∧ (x = true → Qb true)) : WW G M F (.BoolOp .Or (a :: b :: es) pos) Γ Qb := by
  refine ⟨fun X gd σ H S hl g => tWw.of (pw_or (pt_w a) (pw_w _)) ((h.run X gd σ H S hl g).mono fun x H1 ⟨S1, g1, e1, k1, q1, q2⟩ => ?_)⟩
  cases x with
  | false => rw [if_neg Bool.false_ne_true]; exact ((q1 rfl).run X gd σ H1 S1 hl g1).mono fun c H2 p => p.ahead e1 k1
  | true => rw [if_pos rfl]; exact ⟨S1, g1, e1, k1, q2 rfl⟩
/-- as values -/
theorem we_one {op} (h : WE G M F a Γ Q) : WE G M F (.BoolOp op [a] pos) Γ Q := ⟨fun X gd σ H S hl g => tW.of (pe_one (pe_w a)) (h.run X gd σ H S hl g)⟩
theorem we_and (h : WE G M F a Γ fun d => ∃ c, d = .bool c ∧ (c = true → WE G M F (.BoolOp .And (b :: es) pos) Γ Q) ∧ (c = false → Q (.bool false))) : WE G M F (.BoolOp .And (a :: b :: es) pos) Γ Q := by
  refine ⟨fun X gd σ H S hl g => tW.of (pe_and (pe_w a) (pe_w _)) ((h.run X gd σ H S hl g).mono fun v H1 ⟨S1, d, g1, e1, k1, hd, c, ec, q1, q2⟩ => ?_)⟩
  subst ec
  cases hd
  refine ⟨c, rfl, ?_⟩
  cases c with
  | true => rw [if_pos rfl]; exact ((q1 rfl).run X gd σ H1 S1 hl g1).mono fun v H2 p => p.ahead e1 k1
  | false => rw [if_neg Bool.false_ne_true]; exact (PostE.here g1 (.bl _) (q2 rfl)).ahead e1 k1
theorem we_or (h : WE G M F a Γ fun d => ∃ c, d = .bool c ∧ (c = false → WE G M F (.BoolOp .Or (b :: es) pos) Γ Q) ∧ (c = true → Q (.bool true))) : WE G M F (.BoolOp .Or (a :: b :: es) pos) Γ Q := by
  refine ⟨fun X gd σ H S hl g => tW.of (pe_or (pe_w a) (pe_w _)) ((h.run X gd σ H S hl g).mono fun v H1 ⟨S1, d, g1, e1, k1, hd, c, ec, q1, q2⟩ => ?_)⟩
  subst ec
  cases hd
  refine ⟨c, rfl, ?_⟩
  cases c with
  | false => rw [if_neg Bool.false_ne_true]; exact ((q1 rfl).run X gd σ H1 S1 hl g1).mono fun v H2 p => p.ahead e1 k1
  | true => rw [if_pos rfl]; exact (PostE.here g1 (.bl _) (q2 rfl)).ahead e1 k1
theorem we_ifexp (h : WT G M F c Γ fun x => (x = true → WE G M F a Γ Q) ∧ (x = false → WE G M F b Γ Q)) : WE G M F (.IfExp c a b pos) Γ Q := by
  refine ⟨fun X gd σ H S hl g => tW.of (pe_ifExp (pt_w c) (pe_w a) (pe_w b)) ((h.run X gd σ H S hl g).mono fun x H1 ⟨S1, g1, e1, k1, q1, q2⟩ => ?_)⟩
  cases x with
  | true => rw [if_pos rfl]; exact ((q1 rfl).run X gd σ H1 S1 hl g1).mono fun v H2 p => p.ahead e1 k1
  | false => rw [if_neg Bool.false_ne_true]; exact ((q2 rfl).run X gd σ H1 S1 hl g1).mono fun v H2 p => p.ahead e1 k1

/-! ### lists of arguments, displays -/
variable {Ql : List PyData → Prop}
theorem wl_nil (h : Ql []) : WL G M F [] Γ Ql := ⟨fun X gd σ H S hl g => tWa.of pa_nil ⟨S, [], g, Same.refl S, Kq.refl H S, .nil, h⟩⟩
theorem wl_cons (h : WE G M F e Γ fun d => WL G M F es Γ fun ds => Ql (d :: ds)) (hs : ∀ env, starEach (e :: es) env = (false, eval e env) :: starEach es env := by intro _; rfl) : WL G M F (e :: es) Γ Ql := by
  refine ⟨fun X gd σ H S hl g => tWa.of (pa_cons (pe_w e) (pa_w es) (hs X.env)) ((h.run X gd σ H S hl g).mono fun v H1 ⟨S1, d, g1, e1, k1, hd, q⟩ => ?_)⟩
  exact (q.run X gd σ H1 S1 hl g1).mono fun vs H2 ⟨S2, ds, g2, e2, k2, hds, q2⟩ => ⟨S2, d :: ds, g2, e1.trans e2, k1.trans k2, .cons (dp_mono e2 hd) hds, q2⟩
theorem we_tuple {x1} (h : WL G M F es Γ fun ds => ds.length ≤ lim ∧ Q (.tuple ds)) : WE G M F (.Tuple es x1 pos) Γ Q := by
  refine ⟨fun X gd σ H S hl g => tW.of (pe_tup (pa_w es)) ((h.run X gd σ H S hl g).mono fun vs H1 ⟨S1, ds, g1, e1, k1, hd, z, q⟩ => ?_)⟩
  exact ⟨by rw [hd.len]; exact z, fun p hp => (PostE.newT g1 hp hd q).ahead e1 k1⟩
theorem we_list (h : WL G M F es Γ fun ds => ds.length ≤ lim ∧ Q (.list ds)) : WE G M F (.List es pos) Γ Q := by
  refine ⟨fun X gd σ H S hl g => tW.of (pe_lst (pa_w es)) ((h.run X gd σ H S hl g).mono fun vs H1 ⟨S1, ds, g1, e1, k1, hd, z, q⟩ => ?_)⟩
  exact ⟨by rw [hd.len]; exact z, fun p hp => (PostE.newL g1 hp hd q).ahead e1 k1⟩

/-! ### subscripts, slices -/
theorem atI_dp {K : PySem.W.Frag} {S : Hp} {vs : List V} {ds : List PyData} {i : Int} {d : PyData} (h : DpAll K S vs ds) (e : atI ds i = some d) : ∃ v, atI vs i = some v ∧ Dp K S v d := by
  unfold atI at e ⊢
  rw [h.len]
  cases q : ixN ds.length i with
  | none => rw [q] at e; cases e
  | some j =>
    rw [q] at e
    exact h.get e
def IxD : PyData → PyData → (PyData → Prop) → Prop
  | .list xs, .int i, Q => ∃ d, atI xs i = some d ∧ Q d
  | .tuple xs, .int i, Q => ∃ d, atI xs i = some d ∧ Q d
  | .str z, .int i, Q => ∃ c, z.length ≤ lim ∧ atI z.cps.toList i = some c ∧ Q (.str ⟨#[c]⟩)
  | _, _, _ => False
theorem we_ix (h : WB G M F a Γ fun d => WB G M F b Γ fun e => IxD d e Q) (hs : PlainIx b := by intro _ _; rfl) : WE G M F (.Subscript a b pos) Γ Q := by
  refine ⟨fun X gd σ H S hl g => ?_⟩
  refine tW.of (pe_ix ix_seq (pe_w a) (pe_w b) hs) ?_
  refine two h gd hl g fun x y H2 S2 d e g2 e2 k2 hd he r => ?_
  rw [gd.K]
  cases d <;> try exact r.elim
  · cases e <;> try exact r.elim
    obtain ⟨c, z, hc, q⟩ := r
    rw [hd.str, he.int]
    exact .inr (.inr ⟨_, _, c, rfl, rfl, z, hc, (PostE.here g2 (.str _) q).ahead e2 k2⟩)
  · cases e <;> try exact r.elim
    obtain ⟨d, hc, q⟩ := r
    obtain ⟨p, us, rfl, s1, d1⟩ := hd.l g2.ex
    obtain ⟨v, hv, dv⟩ := atI_dp d1 hc
    rw [he.int]
    exact .inl ⟨p, us, _, v, rfl, rfl, s1, hv, (PostE.here g2 dv q).ahead e2 k2⟩
  · cases e <;> try exact r.elim
    obtain ⟨d, hc, q⟩ := r
    obtain ⟨p, us, rfl, s1, d1⟩ := hd.t g2.ex
    obtain ⟨v, hv, dv⟩ := atI_dp d1 hc
    rw [he.int]
    exact .inr (.inl ⟨p, us, _, v, rfl, rfl, s1, hv, (PostE.here g2 dv q).ahead e2 k2⟩)
@[irreducible] def cutD (xs : List PyData) (lo hi : Option Int) : List PyData := (xs.drop (HT.sIx xs.length 0 lo)).take (HT.sIx xs.length xs.length hi - HT.sIx xs.length 0 lo)
theorem cut_dp {K : PySem.W.Frag} {S : Hp} {vs : List V} {ds : List PyData} {lo hi : Option Int} (h : DpAll K S vs ds) : DpAll K S (cutV vs lo hi) (cutD ds lo hi) := by
  unfold cutV cutD
  rw [h.len]
  exact (h.drop _).take _
/-- a part of a slice -/
def tWo (X : Cx) (e : Option Expr) : TO := fun σ H Q => ∀ pins s, Inv X pins σ H s → wpAny (model X.prog X.w) X.A (evalPart e X.env) (fun u s' => ∃ o H', Inv X pins σ H' s' ∧ IsPart u o ∧ Q o H') X.xe s
theorem po_w {X : Cx} (e : Option Expr) : PO X e (tWo X e) := ⟨fun pins s _ _ _ I h => h pins s I⟩
theorem tWo.of {X : Cx} {e : Option Expr} {t : TO} {σ : St} {H : Hp} {Q : Option Int → Hp → Prop} (p : PO X e t) (h : t σ H Q) : tWo X e σ H Q := fun pins s I => p.run pins s σ H Q I h
theorem tWo.mono {X : Cx} {e : Option Expr} {σ : St} {H : Hp} {Q Q' : Option Int → Hp → Prop} (h : tWo X e σ H Q) (k : ∀ v H', Q v H' → Q' v H') : tWo X e σ H Q' :=
  fun pins s I => thn (h pins s I) fun _ _ ⟨o, H', I', r, q⟩ => ⟨o, H', I', r, k o H' q⟩
structure WO (G : Gd) (M : Nm) (F : Fx) (e : Option Expr) (Γ : List Bd) (Q : Option Int → Prop) : Prop where
  run : ∀ X, Good G M X → ∀ σ H S, σ.length = M.N.length → GRel G.K F Γ σ H S → tWo X e σ H fun o H' => ∃ S', GRel G.K F Γ σ H' S' ∧ Same S S' ∧ Kq F H S H' S' ∧ Q o
theorem wo_none {Qo : Option Int → Prop} (h : Qo none) : WO G M F none Γ Qo := ⟨fun X gd σ H S hl g => tWo.of po_none ⟨S, g, Same.refl S, Kq.refl H S, h⟩⟩
theorem wo_some {Qo : Option Int → Prop} (h : WE G M F e Γ fun d => ∃ i, d = .int i ∧ Qo (some i)) : WO G M F (some e) Γ Qo :=
  ⟨fun X gd σ H S hl g => tWo.of (po_some (pe_w e)) ((h.run X gd σ H S hl g).mono fun v H1 ⟨S1, d, g1, e1, k1, hd, i, ei, q⟩ => by
    subst ei
    cases hd
    exact ⟨i, rfl, S1, g1, e1, k1, q⟩)⟩
def SlD : PyData → Option Int → Option Int → (PyData → Prop) → Prop
  | .list xs, lo, hi, Q => Q (.list (cutD xs lo hi))
  | .tuple xs, lo, hi, Q => Q (.tuple (cutD xs lo hi))
  | .str z, lo, hi, Q => z.length ≤ lim ∧ Q (.str (cutS z lo hi))
  | _, _, _, _ => False
theorem cut_whole {xs : List PyData} {lo hi : Option Int} (h1 : HT.sIx xs.length 0 lo = 0) (h2 : HT.sIx xs.length xs.length hi = xs.length) : cutD xs lo hi = xs := by
  unfold cutD
  rw [h1, h2, Nat.sub_zero, List.drop_zero, List.take_length]
theorem _root_.DW.Db.tdp {K : PySem.W.Frag} {F : Fx} {H S : Hp} {v : V} {xs : List PyData} (h : Db K F H S v (.tuple xs)) : Dp K S v (.tuple xs) := by
  rcases h with h | ⟨_, _, _, _, z, _⟩
  · exact h
  · cases z
theorem sIx_len (n : Nat) (lo : Option Int) : HT.sIx n n lo ≤ n := HT.sIx_le n n (Nat.le_refl n) lo
theorem we_slice {lo hi : Option Expr} {p2 : Pos} (h : WB G M F a Γ fun d => WO G M F lo Γ fun l => WO G M F hi Γ fun u => SlD d l u Q) : WE G M F (.Subscript a (.Slice lo hi none p2) pos) Γ Q := by
  refine ⟨fun X gd σ H S hl g => tW.of (pe_slice (SlR.or sl_list (SlR.or sl_tupA sl_str)) (pe_w a) (po_w lo) (po_w hi)) ((h.run X gd σ H S hl g).mono fun x H1 ⟨S1, d, g1, e1, k1, hd, q⟩ => ?_)⟩
  refine (q.run X gd σ H1 S1 hl g1).mono fun l H2 ⟨S2, g2, e2, k2, q2⟩ => (q2.run X gd σ H2 S2 hl g2).mono fun u H3 ⟨S3, g3, e3, k3, q3⟩ => ?_
  have hd := (hd.mono e2 k2).mono e3 k3
  have e13 : Same S S3 := e1.trans (e2.trans e3)
  have k13 : Kq F H S H3 S3 := k1.trans (k2.trans k3)
  rw [gd.K]
  cases d <;> try exact q3.elim
  · rw [hd.str]
    obtain ⟨z, q3⟩ := q3
    exact .inr (.inr ⟨_, rfl, z, (PostE.here g3 (.str _) q3).ahead e13 k13⟩)
  · obtain ⟨p, us, rfl, s1, d1⟩ := hd.l g3.ex
    exact .inl ⟨p, us, rfl, s1, fun t ht => (PostE.newL g3 ht (cut_dp d1) q3).ahead e13 k13⟩
  · obtain ⟨p, us, rfl, s1, d1⟩ := hd.t g3.ex
    refine .inr (.inl ⟨p, us, rfl, s1, fun w => ?_, fun _ t ht => (PostE.newT g3 ht (cut_dp d1) q3).ahead e13 k13⟩)
    rw [d1.len] at w
    rw [show SlD _ _ _ Q = Q _ from rfl, cut_whole w.1 w.2] at q3
    exact (PostE.here g3 hd.tdp q3).ahead e13 k13
end
end DW

namespace DW
open PySem PySem.Spec L2
open PyProof.Rows hiding St

/-! ### what a def promises, by data -/
abbrev DS := List PyData → (PyData → Prop) → Prop
/-- what stands behind a call that returns d -/
def Back (K : PySem.W.Frag) (H S : Hp) (bag : Option Addr) (Q : VK) (d : PyData) : Prop :=
  ∀ v H' S', (∀ a o, H a = some o → bag ≠ some a → H' a = some o) → Same S S' → Same S' H' → (∀ a o, S' a = some o → (∃ u, S a = some u) ∨ H a = none) → (∀ b, bag = some b → S' b = none ∧ BagIn K S' H' b) → Dp K S' v d → Q v H'
/-- of data -/
def spD (K : PySem.W.Frag) (n : Nat) (sp : DS) : Sp := fun vs H Q _ => ∃ ds S Q0, ds.length = n ∧ Same S H ∧ DpAll K S vs ds ∧ sp ds Q0 ∧ ∀ d, Q0 d → Back K H S none Q d
/-- of the bag and data -/
def spB (K : PySem.W.Frag) (n : Nat) (sp : DS) : Sp := fun vs H Q _ => ∃ b us ds S Q0, vs = .ref b :: us ∧ ds.length + 1 = n ∧ Same S H ∧ S b = none ∧ BagIn K S H b ∧ DpAll K S us ds ∧ sp ds Q0 ∧ ∀ d, Q0 d → Back K H S (some b) Q d
/-- a def that stands -/
structure Fn (G : Gd) (k : Nat) (x : Str) (ps : List Str) (sp : Sp) : Prop where
  ex : ∃ f fd, G.mg x = some (.ref f) ∧ PySem.W.keepIn G.K (.ref f) = true ∧ Binds G.K fd ps [] ∧ FnOk G.P G.w G.K G.mg G.base CX0 k f fd ps sp
/-- another room -/
def Gd.at (G : Gd) (k : Nat) : Gd := { G with k := k }
theorem Fn.at {G : Gd} {k j : Nat} {x : Str} {ps : List Str} {sp : Sp} (h : Fn G k x ps sp) : Fn (G.at j) k x ps sp := ⟨h.ex⟩

section
variable {G : Gd} {M : Nm} {F : Fx} {Γ : List Bd} {Q : PyData → Prop} {Qb : Bool → Prop} {pos p : Pos} {a b c e : Expr} {es : List Expr}
theorem fn_use {X : Cx} (gd : Good G M X) {k : Nat} {f : Addr} {fd : FuncData} {ps : List Str} {sp : Sp} (h : FnOk G.P G.w G.K G.mg G.base CX0 k f fd ps sp) : FnOk X.prog X.w X.K X.mg X.base CX0 k f fd ps sp := by
  rw [gd.prog, gd.w, gd.K, gd.mg, gd.base]; exact h
theorem we_call {k n : Nat} {x : Str} {ps : List Str} {sp : DS} (fn : Fn G k x ps (spD G.K n sp)) (hg : x ∈ M.gl) (hk : k ≤ G.k) (h : WL G M F (e :: es) Γ fun ds => ds.length = n ∧ sp ds Q)
    (hdb : (x == ("__debug__" : Str)) = false := by decide) (he : ∀ env, starEach (e :: es) env = (false, eval e env) :: starEach es env := by intro _; rfl) (hpl : ∀ env, (backTo pos (starEach es env)).any (·.1) = false := by intro _; rfl) :
    WE G M F (.Call (.Name x p) (e :: es) [] pos) Γ Q := by
  obtain ⟨f, fd, h1, h2, h3, h4⟩ := fn.ex
  refine ⟨fun X gd σ H S hl g => ?_⟩
  refine tW.of (pe_call (E := fun _ _ _ => False) (fn_use gd h4) (gd.room.mono hk) (gd.gl hg) (by rw [gd.mg]; exact h1) (by rw [gd.K]; exact h2) (by rw [gd.K]; exact h3) .nil pass0 (pa_w (e :: es)) hdb (he X.env) (hpl X.env)) ?_
  refine (h.run X gd σ H S hl g).mono fun vs H1 ⟨S1, ds, g1, e1, k1, hd, hn, q⟩ => ?_
  rw [List.append_nil]
  refine ⟨ds, S1, Q, hn, g1.ex, hd, q, fun d qd v H2 S2 kp s2 x2 nw _ dp => ?_⟩
  have g2 : GRel G.K F Γ σ H2 S2 := g1.ext (fun a o q _ => kp a o q (by simp)) s2 x2 nw fun bb hb => by
    obtain ⟨q1, ⟨o, q2⟩, c, i, j, m, ns, q3, q4, q5⟩ := g1.bag bb hb
    refine ⟨?_, BagIn.mono ⟨c, i, j, m, ns, q3, q4, q5⟩ s2 ((kp bb _ q3 (by simp)).trans q3.symm)⟩
    cases z : S2 bb with
    | none => rfl
    | some u =>
      rcases nw bb u z with ⟨u', w⟩ | w
      · rw [q1] at w; cases w
      · rw [q3] at w; cases w
  exact ⟨S2, d, g2, e1.trans s2, k1.trans ⟨fun a o q _ => kp a o q (by simp), fun a o q => ⟨o, kp a o q (by simp)⟩, nw⟩, dp, qd⟩
theorem we_call0 {k : Nat} {x : Str} {sp : DS} (fn : Fn G k x [] (spD G.K 0 sp)) (hg : x ∈ M.gl) (hk : k ≤ G.k) (h : sp [] Q)
    (hdb : (x == ("__debug__" : Str)) = false := by decide) : WE G M F (.Call (.Name x p) [] [] pos) Γ Q := by
  obtain ⟨f, fd, h1, h2, h3, h4⟩ := fn.ex
  refine ⟨fun X gd σ H S hl g => ?_⟩
  refine tW.of (pe_call0 (E := fun _ _ _ => False) (fn_use gd h4) (gd.room.mono hk) (gd.gl hg) (by rw [gd.mg]; exact h1) (by rw [gd.K]; exact h2) (by rw [gd.K]; exact h3) .nil pass0 hdb) ?_
  refine ⟨[], S, Q, rfl, g.ex, .nil, h, fun d qd v H2 S2 kp s2 x2 nw _ dp => ?_⟩
  have g2 : GRel G.K F Γ σ H2 S2 := g.ext (fun a o q _ => kp a o q (by simp)) s2 x2 nw fun bb hb => by
    obtain ⟨q1, ⟨o, q2⟩, c, i, j, m, ns, q3, q4, q5⟩ := g.bag bb hb
    refine ⟨?_, BagIn.mono ⟨c, i, j, m, ns, q3, q4, q5⟩ s2 ((kp bb _ q3 (by simp)).trans q3.symm)⟩
    cases z : S2 bb with
    | none => rfl
    | some u =>
      rcases nw bb u z with ⟨u', w⟩ | w
      · rw [q1] at w; cases w
      · rw [q3] at w; cases w
  exact ⟨S2, d, g2, s2, ⟨fun a o q _ => kp a o q (by simp), fun a o q => ⟨o, kp a o q (by simp)⟩, nw⟩, dp, qd⟩
/-- f(bag, ..) -/
theorem we_bag {k n : Nat} {x y : Str} {ps : List Str} {sp : DS} {i : Nat} {bb : Addr} {py : Pos} (fn : Fn G k x ps (spB G.K n sp)) (hg : x ∈ M.gl) (hk : k ≤ G.k) (hn : Rdb M i y) (hb : Γ[i]? = some (Bd.rw (.ref bb))) (hF : F.bag = some bb)
    (h : WL G M F es Γ fun ds => ds.length + 1 = n ∧ sp ds Q) (hdb : (x == ("__debug__" : Str)) = false := by decide)
    (hpl : ∀ env, (backTo pos (starEach es env)).any (·.1) = false := by intro _; rfl) :
    WE G M F (.Call (.Name x p) (.Name y py :: es) [] pos) Γ Q := by
  obtain ⟨f, fd, h1, h2, h3, h4⟩ := fn.ex
  refine ⟨fun X gd σ H S hl g => ?_⟩
  refine tW.of (pe_call (E := fun _ _ _ => False) (fn_use gd h4) (gd.room.mono hk) (gd.gl hg) (by rw [gd.mg]; exact h1) (by rw [gd.K]; exact h2) (by rw [gd.K]; exact h3) .nil pass0
    (pa_cons (pe_var (gd.at hn.1) (gd.vis hn) hn.2.2.1 hn.2.2.2) (pa_w es)) hdb rfl (hpl X.env)) ?_
  refine ⟨.ref bb, g.raw i _ hb, ?_⟩
  refine (h.run X gd σ H S hl g).mono fun vs H1 ⟨S1, ds, g1, e1, k1, hd, hn, q⟩ => ?_
  show spB G.K n sp ((V.ref bb :: vs) ++ []) H1 _ _
  rw [List.append_nil]
  obtain ⟨b1, _, b2⟩ := g1.bag bb hF
  refine ⟨bb, vs, ds, S1, Q, rfl, hn, g1.ex, b1, b2, hd, q, fun d qd v H2 S2 kp s2 x2 nw bk dp => ?_⟩
  have kp' : Kp F H1 H2 := fun a o q z => kp a o q (by rw [← hF]; exact z)
  have g2 : GRel G.K F Γ σ H2 S2 := g1.ext kp' s2 x2 nw fun b' hb' => bk b' (by rw [← hF]; exact hb')
  refine ⟨S2, d, g2, e1.trans s2, k1.trans ⟨kp', fun a o q => ?_, nw⟩, dp, qd⟩
  by_cases z : bb = a
  · obtain ⟨_, _, _, _, _, _, w, _⟩ := bk bb rfl
    exact ⟨_, z ▸ w⟩
  · exact ⟨o, kp a o q fun w => z (Option.some.inj w)⟩

/-! ### built-in functions -/
theorem we_b1 {id : String} {x : Str} {r : List V → Hp → VK → Prop} {R : PyData → Prop} (hc : ∀ X, Good G M X → CallR X (.builtin id) r) (hg : x ∈ M.gl) (hm : G.mg x = none) (hv : bootBuiltins x = some (.builtin id)) (h : WB G M F a Γ R)
    (k : ∀ {σ : St} {H S : Hp} {v : V} {d : PyData}, GRel G.K F Γ σ H S → Db G.K F H S v d → R d → ∀ Q' : VK, (∀ v H', PostE G.K F Γ σ H S Q v H' → Q' v H') → r [v] H Q') (hn : x ≠ "__name__" := by decide) (hdb : (x == ("__debug__" : Str)) = false := by decide)
    (hs : ∀ env, starEach [a] env = [(false, eval a env)] := by intro _; rfl) : WE G M F (.Call (.Name x p) [a] [] pos) Γ Q := by
  refine ⟨fun X gd σ H S hl g => tW.of (pe_callB (hc X gd) (gd.gl hg) (by rw [gd.mg]; exact hm) hv (pa_cons (pe_w a) pa_nil (hs X.env)) hn hdb (hs X.env) rfl) ?_⟩
  exact (h.run X gd σ H S hl g).mono fun v H1 ⟨S1, d, g1, e1, k1, hd, q⟩ => k g1 hd q _ fun v H' p => p.ahead e1 k1
theorem we_t1 {T : String} {x : Str} {r : List V → Hp → VK → Prop} {R : PyData → Prop} (hc : ∀ X, Good G M X → CallR X (.type T) r) (hg : x ∈ M.gl) (hm : G.mg x = none) (hv : bootBuiltins x = some (.type T)) (h : WB G M F a Γ R)
    (k : ∀ {σ : St} {H S : Hp} {v : V} {d : PyData}, GRel G.K F Γ σ H S → Db G.K F H S v d → R d → ∀ Q' : VK, (∀ v H', PostE G.K F Γ σ H S Q v H' → Q' v H') → r [v] H Q') (hn : x ≠ "__name__" := by decide) (hdb : (x == ("__debug__" : Str)) = false := by decide)
    (hs : ∀ env, starEach [a] env = [(false, eval a env)] := by intro _; rfl) : WE G M F (.Call (.Name x p) [a] [] pos) Γ Q := by
  refine ⟨fun X gd σ H S hl g => tW.of (pe_callTy (hc X gd) (gd.gl hg) (by rw [gd.mg]; exact hm) hv (pa_cons (pe_w a) pa_nil (hs X.env)) hn hdb (hs X.env) rfl) ?_⟩
  exact (h.run X gd σ H S hl g).mono fun v H1 ⟨S1, d, g1, e1, k1, hd, q⟩ => k g1 hd q _ fun v H' p => p.ahead e1 k1
theorem we_b2 {id : String} {x : Str} {r : List V → Hp → VK → Prop} {R : PyData → PyData → Prop} (hc : ∀ X, Good G M X → CallR X (.builtin id) r) (hg : x ∈ M.gl) (hm : G.mg x = none) (hv : bootBuiltins x = some (.builtin id)) (h : WB G M F a Γ fun d => WB G M F b Γ fun e => R d e)
    (k : ∀ {σ : St} {H S : Hp} {v u : V} {d e : PyData}, GRel G.K F Γ σ H S → Db G.K F H S v d → Db G.K F H S u e → R d e → ∀ Q' : VK, (∀ v H', PostE G.K F Γ σ H S Q v H' → Q' v H') → r [v, u] H Q') (hn : x ≠ "__name__" := by decide) (hdb : (x == ("__debug__" : Str)) = false := by decide)
    (hs : ∀ env, starEach [a, b] env = (false, eval a env) :: starEach [b] env := by intro _; rfl) (hs2 : ∀ env, starEach [b] env = [(false, eval b env)] := by intro _; rfl) : WE G M F (.Call (.Name x p) [a, b] [] pos) Γ Q := by
  refine ⟨fun X gd σ H S hl g => tW.of (pe_callB (hc X gd) (gd.gl hg) (by rw [gd.mg]; exact hm) hv (pa_cons (pe_w a) (pa_cons (pe_w b) pa_nil (hs2 X.env)) (hs X.env)) hn hdb (hs X.env) (by rw [hs2]; rfl)) ?_⟩
  exact two h gd hl g fun x y H2 S2 d e g2 e2 k2 hd he r' => k g2 hd he r' _ fun v H' p => p.ahead e2 k2
def LenD : PyData → (PyData → Prop) → Prop
  | .list xs, Q => Q (.int xs.length)
  | .tuple xs, Q => Q (.int xs.length)
  | .str z, Q => z.length ≤ lim ∧ Q (.int z.length)
  | _, _ => False
theorem CallR.or {X : Cx} {f : Value} {r r' : List V → Hp → VK → Prop} (h : CallR X f r) (h' : CallR X f r') : CallR X f fun xs H Q => r xs H Q ∨ r' xs H Q := by
  intro pins s σ H xs us Q I rs q
  rcases q with q | q
  · exact h pins s σ H xs us Q I rs q
  · exact h' pins s σ H xs us Q I rs q
theorem we_len (hm : G.mg "len" = none) (hg : ("len" : Str) ∈ M.gl) (h : WB G M F a Γ fun d => LenD d Q) (hs : ∀ env, starEach [a] env = [(false, eval a env)] := by intro _; rfl) : WE G M F (.Call (.Name "len" p) [a] [] pos) Γ Q := by
  refine we_b1 (r := fun xs H Q => (∃ p ys, xs = [.ref p] ∧ (SqL G.K H p ys ∨ SqT G.K H p ys) ∧ Q (.int ys.length) H) ∨ (∃ z, xs = [.str z] ∧ z.length ≤ sizeLine ∧ Q (.int z.length) H)) (fun X gd => by rw [← gd.K]; exact CallR.or call_len_seq call_len_str) hg hm PySem.boot_len h ?_ (hs := hs)
  intro σ H S v d g hd r Q' k
  cases d <;> try exact r.elim
  · rw [hd.str]; exact .inr ⟨_, rfl, r.1, k _ _ (PostE.here g (.int _) r.2)⟩
  · obtain ⟨t, us, rfl, s1, d1⟩ := hd.l g.ex
    exact .inl ⟨t, us, rfl, .inl s1, k _ _ (PostE.here g (.int _) (by rw [d1.len]; exact r))⟩
  · obtain ⟨t, us, rfl, s1, d1⟩ := hd.t g.ex
    exact .inl ⟨t, us, rfl, .inr s1, k _ _ (PostE.here g (.int _) (by rw [d1.len]; exact r))⟩
def SeqD : PyData → (List PyData → Prop) → Prop
  | .list xs, Q => Q xs
  | .tuple xs, Q => Q xs
  | _, _ => False
theorem we_tup (hm : G.mg "tuple" = none) (hg : ("tuple" : Str) ∈ M.gl) (h : WB G M F a Γ fun d => SeqD d fun xs => Q (.tuple xs)) (hs : ∀ env, starEach [a] env = [(false, eval a env)] := by intro _; rfl) : WE G M F (.Call (.Name "tuple" p) [a] [] pos) Γ Q := by
  refine we_t1 (fun X gd => by have := @call_tuple_of X; rw [gd.K] at this; exact this) hg hm (by decide +kernel) h ?_ (hs := hs)
  intro σ H S v d g hd r Q' k
  cases d <;> try exact r.elim
  · obtain ⟨t, us, rfl, s1, d1⟩ := hd.l g.ex
    exact ⟨t, us, rfl, .inl ⟨s1, fun l hl => k _ _ (PostE.newT g hl d1 r)⟩⟩
  · obtain ⟨t, us, rfl, s1, d1⟩ := hd.t g.ex
    exact ⟨t, us, rfl, .inr ⟨s1, k _ _ (PostE.here g hd.tdp r)⟩⟩
theorem we_lst (hm : G.mg "list" = none) (hg : ("list" : Str) ∈ M.gl) (h : WB G M F a Γ fun d => SeqD d fun xs => Q (.list xs)) (hs : ∀ env, starEach [a] env = [(false, eval a env)] := by intro _; rfl) : WE G M F (.Call (.Name "list" p) [a] [] pos) Γ Q := by
  refine we_t1 (fun X gd => by have := @call_list_of X; rw [gd.K] at this; exact this) hg hm (by decide +kernel) h ?_ (hs := hs)
  intro σ H S v d g hd r Q' k
  cases d <;> try exact r.elim
  · obtain ⟨t, us, rfl, s1, d1⟩ := hd.l g.ex
    exact ⟨t, us, rfl, .inl s1, fun l hl => k _ _ (PostE.newL g hl d1 r)⟩
  · obtain ⟨t, us, rfl, s1, d1⟩ := hd.t g.ex
    exact ⟨t, us, rfl, .inr s1, fun l hl => k _ _ (PostE.newL g hl d1 r)⟩
def IntD : PyData → (PyData → Prop) → Prop
  | .int i, Q => Q (.int i)
  | .bool b, Q => Q (.int (if b then 1 else 0))
  | _, _ => False
theorem we_toint (hm : G.mg "int" = none) (hg : ("int" : Str) ∈ M.gl) (h : WB G M F a Γ fun d => IntD d Q) (hs : ∀ env, starEach [a] env = [(false, eval a env)] := by intro _; rfl) : WE G M F (.Call (.Name "int" p) [a] [] pos) Γ Q := by
  refine we_t1 (fun X gd => call_int1) hg hm (by decide +kernel) h ?_ (hs := hs)
  intro σ H S v d g hd r Q' k
  cases d <;> try exact r.elim
  · rw [hd.bl]; exact .inr ⟨_, rfl, k _ _ (PostE.here g (.int _) r)⟩
  · rw [hd.int]; exact .inl ⟨_, rfl, k _ _ (PostE.here g (.int _) r)⟩
def AbsD : PyData → (PyData → Prop) → Prop
  | .int i, Q => Q (.int (if i < 0 then -i else i))
  | _, _ => False
theorem we_abs (hm : G.mg "abs" = none) (hg : ("abs" : Str) ∈ M.gl) (h : WB G M F a Γ fun d => AbsD d Q) (hs : ∀ env, starEach [a] env = [(false, eval a env)] := by intro _; rfl) : WE G M F (.Call (.Name "abs" p) [a] [] pos) Γ Q := by
  refine we_b1 (fun X gd => call_abs) hg hm (by decide +kernel) h ?_ (hs := hs)
  intro σ H S v d g hd r Q' k
  cases d <;> try exact r.elim
  rw [hd.int]; exact ⟨_, rfl, k _ _ (PostE.here g (.int _) r)⟩
def AllD (d : PyData) (Q : Bool → Prop) : Prop := ∃ bs : List Bool, d = .list (bs.map PyData.bool) ∧ Q (bs.all id)
def AnyD (d : PyData) (Q : Bool → Prop) : Prop := ∃ bs : List Bool, d = .list (bs.map PyData.bool) ∧ Q (bs.any id)
theorem we_all (hm : G.mg "all" = none) (hg : ("all" : Str) ∈ M.gl) (h : WB G M F a Γ fun d => AllD d fun c => Q (.bool c)) (hs : ∀ env, starEach [a] env = [(false, eval a env)] := by intro _; rfl) : WE G M F (.Call (.Name "all" p) [a] [] pos) Γ Q := by
  refine we_b1 (fun X gd => by have := @cr_all X gd.calm; rw [gd.K] at this; exact this) hg hm (by decide +kernel) h ?_ (hs := hs)
  intro σ H S v d g hd ⟨bs, e, r⟩ Q' k
  subst e
  obtain ⟨t, us, rfl, s1, d1⟩ := hd.l g.ex
  rw [d1.bools] at s1
  exact ⟨t, bs, rfl, s1, k _ _ (PostE.here g (.bl _) r)⟩
theorem we_any (hm : G.mg "any" = none) (hg : ("any" : Str) ∈ M.gl) (h : WB G M F a Γ fun d => AnyD d fun c => Q (.bool c)) (hs : ∀ env, starEach [a] env = [(false, eval a env)] := by intro _; rfl) : WE G M F (.Call (.Name "any" p) [a] [] pos) Γ Q := by
  refine we_b1 (fun X gd => by have := @cr_any X gd.calm; rw [gd.K] at this; exact this) hg hm (by decide +kernel) h ?_ (hs := hs)
  intro σ H S v d g hd ⟨bs, e, r⟩ Q' k
  subst e
  obtain ⟨t, us, rfl, s1, d1⟩ := hd.l g.ex
  rw [d1.bools] at s1
  exact ⟨t, bs, rfl, s1, k _ _ (PostE.here g (.bl _) r)⟩
def SumD (d : PyData) (Q : PyData → Prop) : Prop := ∃ ns : List Int, d = .list (ns.map PyData.int) ∧ Q (.int ns.sum)
theorem we_sum (hm : G.mg "sum" = none) (hg : ("sum" : Str) ∈ M.gl) (h : WB G M F a Γ fun d => SumD d Q) (hs : ∀ env, starEach [a] env = [(false, eval a env)] := by intro _; rfl) : WE G M F (.Call (.Name "sum" p) [a] [] pos) Γ Q := by
  refine we_b1 (fun X gd => by have := @cr_sum X gd.calm; rw [gd.K] at this; exact this) hg hm (by decide +kernel) h ?_ (hs := hs)
  intro σ H S v d g hd ⟨bs, e, r⟩ Q' k
  subst e
  obtain ⟨t, us, rfl, s1, d1⟩ := hd.l g.ex
  rw [d1.ints] at s1
  exact ⟨t, bs, rfl, s1, k _ _ (PostE.here g (.int _) r)⟩
def SortD (d : PyData) (Q : PyData → Prop) : Prop := ∃ ns : List Int, d = .list (ns.map PyData.int) ∧ ∀ ns' : List Int, ns'.Perm ns → ns'.Pairwise (· ≤ ·) → Q (.list (ns'.map PyData.int))
theorem we_sorted (hm : G.mg "sorted" = none) (hg : ("sorted" : Str) ∈ M.gl) (h : WB G M F a Γ fun d => SortD d Q) (hs : ∀ env, starEach [a] env = [(false, eval a env)] := by intro _; rfl) : WE G M F (.Call (.Name "sorted" p) [a] [] pos) Γ Q := by
  refine we_b1 (fun X gd => by have := @cr_sortedI X; rw [gd.K] at this; exact this) hg hm (by decide +kernel) h ?_ (hs := hs)
  intro σ H S v d g hd ⟨bs, e, r⟩ Q' k
  subst e
  obtain ⟨t, us, rfl, s1, d1⟩ := hd.l g.ex
  rw [d1.ints] at s1
  exact ⟨t, bs, rfl, s1, fun ns' l h1 h2 hl => k _ _ (PostE.newL g hl DpAll.ofInts (r ns' h1 h2))⟩
def Max2D : PyData → PyData → (PyData → Prop) → Prop
  | .int i, .int j, Q => Q (.int (if j > i then j else i))
  | _, _, _ => False
theorem we_max2 (hm : G.mg "max" = none) (hg : ("max" : Str) ∈ M.gl) (h : WB G M F a Γ fun d => WB G M F b Γ fun e => Max2D d e Q) (hs : ∀ env, starEach [a, b] env = (false, eval a env) :: starEach [b] env := by intro _; rfl) (hs2 : ∀ env, starEach [b] env = [(false, eval b env)] := by intro _; rfl) :
    WE G M F (.Call (.Name "max" p) [a, b] [] pos) Γ Q := by
  refine we_b2 (fun X gd => call_max2 gd.calm) hg hm (by decide +kernel) h ?_ (hs := hs) (hs2 := hs2)
  intro σ H S v u d e g hd he r Q' k
  cases d <;> try exact r.elim
  cases e <;> try exact r.elim
  rw [hd.int, he.int]; exact ⟨_, _, rfl, k _ _ (PostE.here g (.int _) r)⟩
def Min2D : PyData → PyData → (PyData → Prop) → Prop
  | .int i, .int j, Q => Q (.int (if j < i then j else i))
  | _, _, _ => False
theorem we_min2 (hm : G.mg "min" = none) (hg : ("min" : Str) ∈ M.gl) (h : WB G M F a Γ fun d => WB G M F b Γ fun e => Min2D d e Q) (hs : ∀ env, starEach [a, b] env = (false, eval a env) :: starEach [b] env := by intro _; rfl) (hs2 : ∀ env, starEach [b] env = [(false, eval b env)] := by intro _; rfl) :
    WE G M F (.Call (.Name "min" p) [a, b] [] pos) Γ Q := by
  refine we_b2 (fun X gd => call_min2 gd.calm) hg hm (by decide +kernel) h ?_ (hs := hs) (hs2 := hs2)
  intro σ H S v u d e g hd he r Q' k
  cases d <;> try exact r.elim
  cases e <;> try exact r.elim
  rw [hd.int, he.int]; exact ⟨_, _, rfl, k _ _ (PostE.here g (.int _) r)⟩
/-- gcd, a module's name for the built-in one -/
def GcdD : PyData → PyData → (PyData → Prop) → Prop
  | .int i, .int j, Q => Q (.int ((Nat.gcd i.natAbs j.natAbs : Nat) : Int))
  | _, _, _ => False
theorem we_gcd {x : Str} (hm : G.mg x = some (.builtin "math.gcd")) (hg : x ∈ M.gl) (h : WB G M F a Γ fun d => WB G M F b Γ fun e => GcdD d e Q) (hdb : (x == ("__debug__" : Str)) = false := by decide)
    (hs : ∀ env, starEach [a, b] env = (false, eval a env) :: starEach [b] env := by intro _; rfl) (hs2 : ∀ env, starEach [b] env = [(false, eval b env)] := by intro _; rfl) : WE G M F (.Call (.Name x p) [a, b] [] pos) Γ Q := by
  refine ⟨fun X gd σ H S hl g => tW.of (pe_callBfun cr_gcd (gd.gl hg) (by rw [gd.mg]; exact hm) (pa_cons (pe_w a) (pa_cons (pe_w b) pa_nil (hs2 X.env)) (hs X.env)) hdb (hs X.env) (by rw [hs2]; rfl)) ?_⟩
  refine two h gd hl g fun x y H2 S2 d e g2 e2 k2 hd he r' => ?_
  cases d <;> try exact r'.elim
  cases e <;> try exact r'.elim
  rw [hd.int, he.int]
  exact ⟨_, _, rfl, (PostE.here g2 (.int _) r').ahead e2 k2⟩
/-- repr of data, where nothing is being shown -/
def ReprD (d : PyData) (Q : PyData → Prop) : Prop := d.showable = true ∧ d.depth ≤ 60 ∧ d.shown.length ≤ lim ∧ Q (.str d.shown)
def rReprD (K : PySem.W.Frag) : List V → Hp → VK → Prop := fun xs H Q => ∃ p d, xs = [.ref p] ∧ Dp K H (.ref p) d ∧ d.hasDict = false ∧ d.showable = true ∧ d.depth ≤ 60 ∧ d.shown.length ≤ lim ∧ Q (.str d.shown) H
theorem cr_reprD {X : Cx} (hg : X.A.guards = some []) (hu : X.A.units + 64 < cLine) : CallR X (.builtin "repr") (rReprD X.K) := by
  intro pins s σ H vs us Q I r h
  obtain ⟨p, d, rfl, hd, hn, hs, hdp, hz, q⟩ := h
  obtain ⟨u, rfl, ru⟩ := vals1 r
  obtain ⟨as, rd⟩ := Dp.reads I d _ u hd ru
  cases ru
  refine repr_of_reads' rd hs (fun z => by rw [hn] at z; cases z) hg (by omega) (fun _ _ e => e) (fun h' u' tk kp => ?_) hz
  exact ⟨.str d.shown, H, I.kept kp, ⟨_, rfl⟩, q⟩
mutual
theorem dp_nodict {K : PySem.W.Frag} {S : Hp} : ∀ {v : V} {d : PyData}, Dp K S v d → d.hasDict = false
  | _, _, .non => by simp [PyData.hasDict]
  | _, _, .bl b => by simp [PyData.hasDict]
  | _, _, .int i => by simp [PyData.hasDict]
  | _, _, .str x => by simp [PyData.hasDict]
  | _, _, .lst h a => by simp only [PyData.hasDict]; exact dpa_nodict a
  | _, _, .tup h a => by simp only [PyData.hasDict]; exact dpa_nodict a
theorem dpa_nodict {K : PySem.W.Frag} {S : Hp} : ∀ {vs : List V} {ds : List PyData}, DpAll K S vs ds → PyData.hasDictAll ds = false
  | _, _, .nil => by simp [PyData.hasDictAll]
  | _, _, .cons h t => by simp only [PyData.hasDictAll, dp_nodict h, dpa_nodict t, Bool.or_self]
end
theorem we_repr (hG : G.grd = true) (hm : G.mg "repr" = none) (hg : ("repr" : Str) ∈ M.gl) (h : WB G M F a Γ fun d => SeqD d (fun _ => True) ∧ ReprD d Q) (hs : ∀ env, starEach [a] env = [(false, eval a env)] := by intro _; rfl) : WE G M F (.Call (.Name "repr" p) [a] [] pos) Γ Q := by
  refine we_b1 (fun X gd => by have := @cr_reprD X (gd.grd hG) gd.room.units; rw [gd.K] at this; exact this) hg hm (by decide +kernel) h ?_ (hs := hs)
  intro σ H S v d g hd ⟨r0, r1, r2, r3, r4⟩ Q' k
  have hp := hd.dp g.ex
  have z : ∃ t, v = .ref t := by
    cases d <;> try exact r0.elim
    · obtain ⟨t, _, e, _⟩ := hd.l g.ex; exact ⟨t, e⟩
    · obtain ⟨t, _, e, _⟩ := hd.t g.ex; exact ⟨t, e⟩
  obtain ⟨t, rfl⟩ := z
  exact ⟨t, d, rfl, hp, dp_nodict hp, r1, r2, r3, k _ _ (PostE.here g (.str _) r4)⟩
end
end DW

namespace DW
open PySem PySem.Spec L2
open PyProof.Rows hiding St

/-! ### statements -/
structure DE where
  nx : List Bd → Prop
  rt : PyData → Prop
  bk : List Bd → Prop := fun _ => False
  ct : List Bd → Prop := fun _ => False
def PostS (K : PySem.W.Frag) (F : Fx) (n : Nat) (S : Hp) (N : List Bd → Prop) : St → Hp → Prop := fun σ' H' => ∃ Γ' S', σ'.length = n ∧ Γ'.length = n ∧ GRel K F Γ' σ' H' S' ∧ Same S S' ∧ N Γ'
def PostR (K : PySem.W.Frag) (F : Fx) (S : Hp) (R : PyData → Prop) : VK := fun v H' => ∃ S' d, GRel K F [] [] H' S' ∧ Same S S' ∧ Dp K S' v d ∧ R d
def ends (K : PySem.W.Frag) (F : Fx) (n : Nat) (D : DE) (S : Hp) : Ends := ⟨PostS K F n S D.nx, PostR K F S D.rt, PostS K F n S D.bk, PostS K F n S D.ct⟩
structure WS (G : Gd) (M : Nm) (F : Fx) (st : List Stmt) (Γ : List Bd) (D : DE) : Prop where
  run : Γ.length = M.N.length → ∀ X, Good G M X → ∀ σ H S, σ.length = M.N.length → GRel G.K F Γ σ H S → tWb X st (ends G.K F M.N.length D S) σ H
structure W1 (G : Gd) (M : Nm) (F : Fx) (st : Stmt) (Γ : List Bd) (D : DE) : Prop where
  run : Γ.length = M.N.length → ∀ X, Good G M X → ∀ σ H S, σ.length = M.N.length → GRel G.K F Γ σ H S → tWs X st (ends G.K F M.N.length D S) σ H
/-- a target -/
structure WG (G : Gd) (M : Nm) (F : Fx) (tg : Expr) (d : PyData) (Γ : List Bd) (N : List Bd → Prop) : Prop where
  run : Γ.length = M.N.length → ∀ X, Good G M X → ∀ σ H S v, σ.length = M.N.length → GRel G.K F Γ σ H S → Dp G.K S v d → tWg X tg v σ H (PostS G.K F M.N.length S N)
section
variable {K : PySem.W.Frag} {F : Fx} {n : Nat} {S S1 : Hp} {N : List Bd → Prop} {R : PyData → Prop} {σ : St} {H : Hp} {v : V}
theorem PostS.ahead (e : Same S S1) (h : PostS K F n S1 N σ H) : PostS K F n S N σ H := by
  obtain ⟨Γ', S', h1, h1', h2, h3, h4⟩ := h
  exact ⟨Γ', S', h1, h1', h2, e.trans h3, h4⟩
theorem PostR.ahead (e : Same S S1) (h : PostR K F S1 R v H) : PostR K F S R v H := by
  obtain ⟨S', d, h2, h3, h4⟩ := h
  exact ⟨S', d, h2, e.trans h3, h4⟩
theorem ends_ahead {X : Cx} {st : List Stmt} {D : DE} (e : Same S S1) (h : tWb X st (ends K F n D S1) σ H) : tWb X st (ends K F n D S) σ H := h.mono (fun _ _ => PostS.ahead e) (fun _ _ => PostR.ahead e) (fun _ _ => PostS.ahead e) (fun _ _ => PostS.ahead e)
theorem ends_ahead1 {X : Cx} {st : Stmt} {D : DE} (e : Same S S1) (h : tWs X st (ends K F n D S1) σ H) : tWs X st (ends K F n D S) σ H := h.mono (fun _ _ => PostS.ahead e) (fun _ _ => PostR.ahead e) (fun _ _ => PostS.ahead e) (fun _ _ => PostS.ahead e)
end
section
variable {G : Gd} {M : Nm} {F : Fx} {Γ : List Bd} {D : DE} {pos p p2 p3 : Pos} {a b c e o : Expr} {es : List Expr} {st : Stmt} {sts t1 t2 : List Stmt}
theorem ws_nil (h : D.nx Γ) : WS G M F [] Γ D := ⟨fun hΓ X gd σ H S hl g => tWb.of pss_nil ⟨Γ, S, hl, hΓ, g, Same.refl S, h⟩⟩
theorem ws_cons (h : W1 G M F st Γ { D with nx := fun Γ' => WS G M F sts Γ' D }) : WS G M F (st :: sts) Γ D := by
  refine ⟨fun hΓ X gd σ H S hl g => tWb.of (pss_cons (ps_w st) (pss_w sts)) ?_⟩
  show tWs X st { ends G.K F M.N.length D S with nx := tWb X sts (ends G.K F M.N.length D S) } σ H
  refine (h.run hΓ X gd σ H S hl g).mono (fun σ' H' q => ?_) (fun _ _ q => q) (fun _ _ q => q) fun _ _ q => q
  obtain ⟨Γ', S', h1, h1', h2, h3, h4⟩ := q
  exact ends_ahead h3 (h4.run h1' X gd σ' H' S' h1 h2)
theorem ws_mono {D' : DE} (h : WS G M F sts Γ D') (n : ∀ Γ, D'.nx Γ → D.nx Γ) (r : ∀ d, D'.rt d → D.rt d) (bb : ∀ Γ, D'.bk Γ → D.bk Γ) (cc : ∀ Γ, D'.ct Γ → D.ct Γ) : WS G M F sts Γ D :=
  ⟨fun hΓ X gd σ H S hl g => (h.run hΓ X gd σ H S hl g).mono (fun _ _ ⟨Γ', S', h1, h1', h2, h3, h4⟩ => ⟨Γ', S', h1, h1', h2, h3, n _ h4⟩) (fun _ _ ⟨S', d, h2, h3, h4, h5⟩ => ⟨S', d, h2, h3, h4, r _ h5⟩)
    (fun _ _ ⟨Γ', S', h1, h1', h2, h3, h4⟩ => ⟨Γ', S', h1, h1', h2, h3, bb _ h4⟩) fun _ _ ⟨Γ', S', h1, h1', h2, h3, h4⟩ => ⟨Γ', S', h1, h1', h2, h3, cc _ h4⟩⟩
/-- a list of one's own stays from here on -/
theorem ws_freeze (i : Nat) {ds : List PyData} (hi : Γ[i]? = some (Bd.mu ds)) (h : WS G M F sts (Γ.set i (Bd.im (.list ds))) D) : WS G M F sts Γ D := by
  refine ⟨fun hΓ X gd σ H S hl g => ?_⟩
  obtain ⟨S', g', e'⟩ := g.freeze hi
  exact ends_ahead e' (h.run (by rw [List.length_set]; exact hΓ) X gd σ H S' hl g')
theorem w1_freeze (i : Nat) {ds : List PyData} (hi : Γ[i]? = some (Bd.mu ds)) (h : W1 G M F st (Γ.set i (Bd.im (.list ds))) D) : W1 G M F st Γ D := by
  refine ⟨fun hΓ X gd σ H S hl g => ?_⟩
  obtain ⟨S', g', e'⟩ := g.freeze hi
  exact ends_ahead1 e' (h.run (by rw [List.length_set]; exact hΓ) X gd σ H S' hl g')
/-- a name forgotten -/
theorem GRel.forget {K : PySem.W.Frag} {σ : St} {H S : Hp} (g : GRel K F Γ σ H S) (i : Nat) : GRel K F (Γ.set i Bd.no) σ H S := by
  refine g.re (fun j d h => ?_) (fun j ds h => ?_) fun j v h => ?_
  · rcases get_set h with ⟨_, q, _⟩ | ⟨_, q⟩
    · cases q
    · exact g.loc j d q
  · rcases get_set h with ⟨_, q, _⟩ | ⟨_, q⟩
    · cases q
    · exact ⟨q, rfl⟩
  · rcases get_set h with ⟨_, q, _⟩ | ⟨_, q⟩
    · cases q
    · exact g.raw j v q
theorem ws_forget (i : Nat) (h : WS G M F sts (Γ.set i Bd.no) D) : WS G M F sts Γ D :=
  ⟨fun hΓ X gd σ H S hl g => h.run (by rw [List.length_set]; exact hΓ) X gd σ H S hl (g.forget i)⟩

/-! ### small ones -/
theorem w1_set (i : Nat) {x : Str} (hx : Sto M i x) (h : WE G M F e Γ fun d => D.nx (Γ.set i (Bd.im d))) (hs : ∀ env, swapsWith e (some (.Name x p)) pos.line env = pure false := by intro _; rfl) : W1 G M F (.Assign [.Name x p] e pos) Γ D := by
  refine ⟨fun hΓ X gd σ H S hl g => tWs.of (ps_set gd.nd (gd.at hx.1) (gd.sto hx).1 (pe_w e) (hs X.env) (gd.sto hx).2) ?_⟩
  exact (h.run X gd σ H S hl g).mono fun v H1 ⟨S1, d, g1, e1, _, hd, q⟩ => ⟨_, S1, by rw [List.length_set]; exact hl, by rw [List.length_set]; exact hΓ, g1.store (hΓ.trans hl.symm) hd, e1, q⟩
theorem w1_expr (h : WE G M F e Γ fun _ => D.nx Γ) (hs : ∀ env, swapsWith e none pos.line env = pure false := by intro _; rfl) : W1 G M F (.Expr e pos) Γ D := by
  refine ⟨fun hΓ X gd σ H S hl g => tWs.of (ps_expr (pe_w e) (hs X.env)) ?_⟩
  exact (h.run X gd σ H S hl g).mono fun v H1 ⟨S1, d, g1, e1, _, hd, q⟩ => ⟨Γ, S1, hl, hΓ, g1, e1, q⟩
theorem w1_doc {x : Str} {j : Nat} (h : D.nx Γ) : W1 G M F (.Expr (.Constant (.str x) j p) pos) Γ D := ⟨fun hΓ X gd σ H S hl g => tWs.of ps_doc ⟨Γ, S, hl, hΓ, g, Same.refl S, h⟩⟩
theorem w1_ret (h : WE G M F e Γ D.rt) : W1 G M F (.Return (some e) pos) Γ D := by
  refine ⟨fun hΓ X gd σ H S hl g => tWs.of (ps_ret (pe_w e)) ?_⟩
  exact (h.run X gd σ H S hl g).mono fun v H1 ⟨S1, d, g1, e1, _, hd, q⟩ => ⟨S1, d, g1.nil, e1, hd, q⟩
theorem w1_retN (h : D.rt .none) : W1 G M F (.Return none pos) Γ D := ⟨fun hΓ X gd σ H S hl g => tWs.of ps_retN ⟨S, .none, g.nil, Same.refl S, .non, h⟩⟩
theorem w1_pass (h : D.nx Γ) : W1 G M F (.Pass pos) Γ D := ⟨fun hΓ X gd σ H S hl g => tWs.of ps_pass ⟨Γ, S, hl, hΓ, g, Same.refl S, h⟩⟩
theorem w1_break (h : D.bk Γ) : W1 G M F (.Break pos) Γ D := ⟨fun hΓ X gd σ H S hl g => tWs.of ps_break ⟨Γ, S, hl, hΓ, g, Same.refl S, h⟩⟩
theorem w1_cont (h : D.ct Γ) : W1 G M F (.Continue pos) Γ D := ⟨fun hΓ X gd σ H S hl g => tWs.of ps_continue ⟨Γ, S, hl, hΓ, g, Same.refl S, h⟩⟩
theorem w1_if (h : WT G M F c Γ fun x => (x = true → WS G M F t1 Γ D) ∧ (x = false → WS G M F t2 Γ D)) : W1 G M F (.If c t1 t2 pos) Γ D := by
  refine ⟨fun hΓ X gd σ H S hl g => tWs.of (ps_if (pt_w c) (pss_w t1) (pss_w t2)) ((h.run X gd σ H S hl g).mono fun x H1 ⟨S1, g1, e1, _, q1, q2⟩ => ?_)⟩
  cases x with
  | true => rw [if_pos rfl]; exact ends_ahead e1 ((q1 rfl).run hΓ X gd σ H1 S1 hl g1)
  | false => rw [if_neg Bool.false_ne_true]; exact ends_ahead e1 ((q2 rfl).run hΓ X gd σ H1 S1 hl g1)
/-- name op= e -/
theorem w1_augI (i : Nat) {x : Str} {f : Int → Int → Int} {op : Operator} {m : Int} (hx : Sto M i x) (hi : Γ[i]? = some (Bd.im (.int m))) (hop : ∀ X, Good G M X → PIp X op (ipI f)) (h : WE G M F e Γ fun d => ∃ k, d = .int k ∧ D.nx (Γ.set i (Bd.im (.int (f m k))))) : W1 G M F (.AugAssign (.Name x p) op e pos) Γ D := by
  refine ⟨fun hΓ X gd σ H S hl g => tWs.of (ps_aug gd.nd (gd.at hx.1) (gd.sto hx).1 (pe_w e) (hop X gd) (gd.sto hx).2) ?_⟩
  obtain ⟨v, h1, h2⟩ := g.loc i _ hi
  cases h2
  refine ⟨_, h1, (h.run X gd σ H S hl g).mono fun v H1 ⟨S1, d, g1, e1, _, hd, k, ek, q⟩ => ?_⟩
  subst ek
  cases hd
  exact ⟨m, k, rfl, rfl, _, S1, by rw [List.length_set]; exact hl, by rw [List.length_set]; exact hΓ, g1.store (hΓ.trans hl.symm) (.int _), e1, q⟩
theorem w1_addI (i : Nat) {x : Str} {m : Int} (hx : Sto M i x) (hi : Γ[i]? = some (Bd.im (.int m))) (h : WE G M F e Γ fun d => ∃ k, d = .int k ∧ D.nx (Γ.set i (Bd.im (.int (m + k))))) : W1 G M F (.AugAssign (.Name x p) .Add e pos) Γ D := w1_augI i hx hi (fun _ _ => ip_add) h
theorem w1_subI (i : Nat) {x : Str} {m : Int} (hx : Sto M i x) (hi : Γ[i]? = some (Bd.im (.int m))) (h : WE G M F e Γ fun d => ∃ k, d = .int k ∧ D.nx (Γ.set i (Bd.im (.int (m - k))))) : W1 G M F (.AugAssign (.Name x p) .Sub e pos) Γ D := w1_augI i hx hi (fun _ _ => ip_sub) h

/-! ### targets -/
theorem wg_name (i : Nat) {x : Str} {d : PyData} {N : List Bd → Prop} (hx : Sto M i x) (h : N (Γ.set i (Bd.im d))) : WG G M F (.Name x p) d Γ N :=
  ⟨fun hΓ X gd σ H S v hl g hd => tWg.of (pg_name gd.nd (gd.at hx.1) (gd.sto hx).1 (gd.sto hx).2) ⟨_, S, by rw [List.length_set]; exact hl, by rw [List.length_set]; exact hΓ, g.store (hΓ.trans hl.symm) hd, Same.refl S, h⟩⟩
/-- several targets -/
structure WGs (G : Gd) (M : Nm) (F : Fx) (tgs : List Expr) (ds : List PyData) (Γ : List Bd) (N : List Bd → Prop) : Prop where
  run : Γ.length = M.N.length → ∀ X, Good G M X → ∀ σ H S vs, σ.length = M.N.length → GRel G.K F Γ σ H S → DpAll G.K S vs ds → ∃ t, PGs X tgs t ∧ t vs σ H (PostS G.K F M.N.length S N)
def tWgs (X : Cx) (tgs : List Expr) : TGs := fun vs σ H Q => ∀ pins s us, Inv X pins σ H s → Vals vs us → wpAny (model X.prog X.w) X.A (assignInOrder ((assignEach tgs X.env).map (·.2)) us) (fun _ s' => ∃ σ' H', Inv X pins σ' H' s' ∧ Q σ' H') X.xe s
theorem pgs_w {X : Cx} (tgs : List Expr) : PGs X tgs (tWgs X tgs) := ⟨fun pins s _ _ _ us _ I r h => h pins s us I r⟩
theorem tWgs.of {X : Cx} {tgs : List Expr} {t : TGs} {vs : List V} {σ : St} {H : Hp} {Q : St → Hp → Prop} (p : PGs X tgs t) (h : t vs σ H Q) : tWgs X tgs vs σ H Q := fun pins s us I r => p.run pins s σ H vs us Q I r h
structure WH (G : Gd) (M : Nm) (F : Fx) (tgs : List Expr) (ds : List PyData) (Γ : List Bd) (N : List Bd → Prop) : Prop where
  run : Γ.length = M.N.length → ∀ X, Good G M X → ∀ σ H S vs, σ.length = M.N.length → GRel G.K F Γ σ H S → DpAll G.K S vs ds → tWgs X tgs vs σ H (PostS G.K F M.N.length S N)
theorem tWgs.mono {X : Cx} {tgs : List Expr} {vs : List V} {σ : St} {H : Hp} {Q Q' : St → Hp → Prop} (h : tWgs X tgs vs σ H Q) (k : ∀ σ' H', Q σ' H' → Q' σ' H') : tWgs X tgs vs σ H Q' :=
  fun pins s u I r => thn (h pins s u I r) fun _ _ ⟨σ', H', I', q⟩ => ⟨σ', H', I', k _ _ q⟩
theorem wh_nil {N : List Bd → Prop} (h : N Γ) : WH G M F [] [] Γ N := ⟨fun hΓ X gd σ H S vs hl g hd => tWgs.of pgs_nil ⟨by cases hd; rfl, Γ, S, hl, hΓ, g, Same.refl S, h⟩⟩
theorem wh_cons {d : PyData} {ds : List PyData} {N : List Bd → Prop} (h : WG G M F e d Γ fun Γ' => WH G M F es ds Γ' N) (hs : ∀ env, (assignEach (e :: es) env).map (·.2) = assign e env :: (assignEach es env).map (·.2) := by intro _; rfl) : WH G M F (e :: es) (d :: ds) Γ N := by
  refine ⟨fun hΓ X gd σ H S vs hl g hd => ?_⟩
  cases hd with
  | cons h1 h2 =>
    refine tWgs.of (pgs_cons (pg_w e) (pgs_w es) (hs X.env)) ⟨_, _, rfl, (h.run hΓ X gd σ H S _ hl g h1).mono fun σ' H' ⟨Γ', S', q1, q1', q2, q3, q4⟩ => ?_⟩
    exact (q4.run q1' X gd σ' H' S' _ q1 q2 (dpa_mono q3 h2)).mono fun _ _ => PostS.ahead q3
theorem wg_tup {k n : Nat} {ds : List PyData} {N : List Bd → Prop} (hl' : ds.length = n) (h : WH G M F es ds Γ N) (hn : ∀ env, (assignEach es env).length = n := by intro _; rfl) (hst : ∀ env, (assignEach es env).findIdx? (·.1) = none := by intro _; rfl) : WG G M F (.Tuple es k p) (.tuple ds) Γ N := by
  refine ⟨fun hΓ X gd σ H S v hl g hd => tWg.of (pg_tup gd.calm (pgs_w es) (hn X.env) (hst X.env)) ?_⟩
  cases hd with
  | tup h1 h2 =>
    rw [gd.K]
    exact ⟨_, _, rfl, same_t g.ex h1, h2.len.trans hl', h.run hΓ X gd σ H S _ hl g h2⟩
theorem w1_asg {tg : Expr} (h : WE G M F e Γ fun d => WG G M F tg d Γ D.nx) (hs : ∀ env, swapsWithSole [tg] e pos.line env = pure false := by intro _; rfl) (hw : ∀ env, swappedStores [tg] e env = pure none := by intro _; rfl)
    (h1 : ∀ env, (assignEach [tg] env).map (·.2) = [assign tg env] := by intro _; rfl) : W1 G M F (.Assign [tg] e pos) Γ D := by
  refine ⟨fun hΓ X gd σ H S hl g => tWs.of (ps_asg (pe_w e) (pg_w tg) (hs X.env) (hw X.env) (h1 X.env)) ((h.run X gd σ H S hl g).mono fun v H1 ⟨S1, d, g1, e1, _, hd, q⟩ => ?_)⟩
  exact (q.run hΓ X gd σ H1 S1 v hl g1 hd).mono fun _ _ => PostS.ahead e1
def noStar (vs : List Expr) : Bool := vs.all fun | .Starred .. => false | _ => true
def isStarE (e : Expr) : Bool := match e with | .Starred .. => true | _ => false
theorem noStar_one {a : Expr} {vs : List Expr} (h : noStar vs = true) (m : a ∈ vs) : isStarE a = false := by
  unfold noStar at h
  have := List.all_eq_true.mp h a m
  cases a <;> first | rfl | exact nomatch this
theorem swap2 {env : Env} {x y : Str} {px py pt pt2 : Pos} {kt k2} {a b : Expr} (h1 : env.scope.kind = .function) (h2 : env.scope.names.lookup x = some .local) (h3 : env.scope.names.lookup y = some .local)
    (hs : noStar [a, b] = true) (hf : [a, b].all (foldedForSure 8) = false) (hc : [a, b].all (constantsAlone 8) = false) (hl : (py.line == px.line) = true) (hxy : x ≠ y) :
    swappedStores [.Tuple [.Name x px, .Name y py] kt pt] (.Tuple [a, b] k2 pt2) env = pure (some [x, y]) := by
  have hb : env.blockKind = .function := by unfold Env.blockKind; rw [h1]; rfl
  have e1 : env.kindOf x = some .local := h2
  have e2 : env.kindOf y = some .local := h3
  have e3 : ¬ y = x := fun z => hxy z.symm
  have e4 : py.line = px.line := eq_of_beq hl
  have f1 := noStar_one hs (List.Mem.head _ : a ∈ [a, b])
  have f2 := noStar_one hs (List.Mem.tail _ (List.Mem.head _) : b ∈ [a, b])
  have f3 : (y == x) = false := beq_eq_false_iff_ne.mpr e3
  simp only [swappedStores, hb, hf, hc]
  simp [f3, e1, e2, hl, hxy, e3, e4, List.eraseDups, List.eraseDupsBy, Expr.pos, List.eraseDupsBy.loop]
  intro z
  rcases z with z | z
  · exact absurd (f1.symm.trans z) (by decide)
  · exact absurd (f2.symm.trans z) (by decide)
theorem swap3 {env : Env} {x y z : Str} {px py pz pt pt2 : Pos} {kt k2} {a b c : Expr} (h1 : env.scope.kind = .function) (h2 : env.scope.names.lookup x = some .local) (h3 : env.scope.names.lookup y = some .local) (h4 : env.scope.names.lookup z = some .local)
    (hs : noStar [a, b, c] = true) (hf : [a, b, c].all (foldedForSure 8) = false) (hc : [a, b, c].all (constantsAlone 8) = false) (hl : (py.line == px.line && pz.line == px.line) = true) (hxy : x ≠ y) (hxz : x ≠ z) (hyz : y ≠ z) :
    swappedStores [.Tuple [.Name x px, .Name y py, .Name z pz] kt pt] (.Tuple [a, b, c] k2 pt2) env = pure (some [x, y, z]) := by
  have hb : env.blockKind = .function := by unfold Env.blockKind; rw [h1]; rfl
  have e1 : env.kindOf x = some .local := h2
  have e2 : env.kindOf y = some .local := h3
  have e6 : env.kindOf z = some .local := h4
  rw [Bool.and_eq_true] at hl
  have e4 : py.line = px.line := eq_of_beq hl.1
  have e7 : pz.line = px.line := eq_of_beq hl.2
  have f1 := noStar_one hs (List.Mem.head _ : a ∈ [a, b, c])
  have f2 := noStar_one hs (List.Mem.tail _ (List.Mem.head _) : b ∈ [a, b, c])
  have f4 := noStar_one hs (List.Mem.tail _ (List.Mem.tail _ (List.Mem.head _)) : c ∈ [a, b, c])
  have f3 : (y == x) = false := beq_eq_false_iff_ne.mpr hxy.symm
  have f5 : (z == x) = false := beq_eq_false_iff_ne.mpr hxz.symm
  have f6 : (z == y) = false := beq_eq_false_iff_ne.mpr hyz.symm
  simp only [swappedStores, hb, hf, hc]
  simp [f3, f5, f6, e1, e2, e6, hxy, hxz, hyz, hxy.symm, hxz.symm, hyz.symm, e4, e7, List.eraseDups, List.eraseDupsBy, Expr.pos, List.eraseDupsBy.loop]
  intro z
  rcases z with z | z | z
  · exact absurd (f1.symm.trans z) (by decide)
  · exact absurd (f2.symm.trans z) (by decide)
  · exact absurd (f4.symm.trans z) (by decide)
/-- a, b = x, y, plain locals -/
theorem w1_par (i j : Nat) {x y : Str} {px py pt pt2 : Pos} {kt k2} (hx : Lcl M i x) (hy : Lcl M j y) (hij : i ≠ j) (h : WL G M F [a, b] Γ fun ds => ∃ d d', ds = [d, d'] ∧ D.nx ((Γ.set i (Bd.im d)).set j (Bd.im d')))
    (hs1 : noStar [a, b] = true := by rfl) (hf : [a, b].all (foldedForSure 8) = false := by rfl) (hc : [a, b].all (constantsAlone 8) = false := by rfl) (hln : (py.line == px.line) = true := by rfl) (hxy : x ≠ y := by decide)
    (hs : ∀ env, swapsWithSole [.Tuple [.Name x px, .Name y py] kt pt] (.Tuple [a, b] k2 pt2) pos.line env = pure false := by intro _; rfl) : W1 G M F (.Assign [.Tuple [.Name x px, .Name y py] kt pt] (.Tuple [a, b] k2 pt2) pos) Γ D := by
  refine ⟨fun hΓ X gd σ H S hl g pins s I => ?_⟩
  refine (tWs.of (ps_par gd.calm gd.nd (gd.at hx.1) (gd.at hy.1) hij (gd.lcl hx) (gd.lcl hy) (pa_w [a, b]) (swap2 I.ok.kind (gd.lcl hx) (gd.lcl hy) hs1 hf hc hln hxy) (hs X.env)) ?_) pins s I
  refine (h.run X gd σ H S hl g).mono fun vs H1 ⟨S1, ds, g1, e1, _, hd, d, d', eds, q⟩ => ?_
  subst eds
  cases hd with
  | cons h1 h2 =>
    cases h2 with
    | cons h2 h3 =>
      cases h3
      exact ⟨_, _, rfl, _, S1, by simp [hl], by simp [hΓ], (g1.store (hΓ.trans hl.symm) h1).store (by simp [hΓ, hl]) h2, e1, q⟩
/-- a, b, c = x, y, z, plain locals -/
theorem w1_par3 (i j l : Nat) {x y z : Str} {px py pz pt pt2 : Pos} {kt k2} (hx : Lcl M i x) (hy : Lcl M j y) (hz : Lcl M l z) (hij : i ≠ j) (hil : i ≠ l) (hjl : j ≠ l) (h : WL G M F [a, b, c] Γ fun ds => ∃ d d' d'', ds = [d, d', d''] ∧ D.nx (((Γ.set i (Bd.im d)).set j (Bd.im d')).set l (Bd.im d'')))
    (hs1 : noStar [a, b, c] = true := by rfl) (hf : [a, b, c].all (foldedForSure 8) = false := by rfl) (hc : [a, b, c].all (constantsAlone 8) = false := by rfl) (hln : (py.line == px.line && pz.line == px.line) = true := by rfl) (hxy : x ≠ y := by decide) (hxz : x ≠ z := by decide) (hyz : y ≠ z := by decide)
    (hs : ∀ env, swapsWithSole [.Tuple [.Name x px, .Name y py, .Name z pz] kt pt] (.Tuple [a, b, c] k2 pt2) pos.line env = pure false := by intro _; rfl) : W1 G M F (.Assign [.Tuple [.Name x px, .Name y py, .Name z pz] kt pt] (.Tuple [a, b, c] k2 pt2) pos) Γ D := by
  refine ⟨fun hΓ X gd σ H S hl' g pins s I => ?_⟩
  refine (tWs.of (ps_par3 gd.calm gd.nd (gd.at hx.1) (gd.at hy.1) (gd.at hz.1) hij hil hjl (gd.lcl hx) (gd.lcl hy) (gd.lcl hz) (pa_w [a, b, c]) (swap3 I.ok.kind (gd.lcl hx) (gd.lcl hy) (gd.lcl hz) hs1 hf hc hln hxy hxz hyz) (hs X.env)) ?_) pins s I
  refine (h.run X gd σ H S hl' g).mono fun vs H1 ⟨S1, ds, g1, e1, _, hd, d, d', d'', eds, q⟩ => ?_
  subst eds
  cases hd with
  | cons h1 h2 =>
    cases h2 with
    | cons h2 h3 =>
      cases h3 with
      | cons h3 h4 =>
        cases h4
        exact ⟨_, _, _, rfl, _, S1, by simp [hl'], by simp [hΓ], ((g1.store (hΓ.trans hl'.symm) h1).store (by simp [hΓ, hl']) h2).store (by simp [hΓ, hl']) h3, e1, q⟩

theorem filterMap_short {α β : Type} (f : α → Option β) : ∀ {l : List α} {a : α}, a ∈ l → f a = none → (l.filterMap f).length ≠ l.length
  | b :: l, a, m, h => by
    have hle : ∀ l : List α, (l.filterMap f).length ≤ l.length := fun l => List.length_filterMap_le f l
    cases m with
    | head =>
      rw [List.filterMap_cons, h]
      have := hle l
      simp only [List.length_cons]
      omega
    | tail _ m =>
      have ih := filterMap_short f m h
      have := hle l
      rw [List.filterMap_cons]
      cases f b <;> simp only [List.length_cons] <;> omega
theorem swap_no {env : Env} {ts vs : List Expr} {kt k2} {pt pt2 : Pos} {y : Str} {py : Pos} (hy : env.scope.names.lookup y = some .cell) (hm : Expr.Name y py ∈ ts) : swappedStores [.Tuple ts kt pt] (.Tuple vs k2 pt2) env = pure none := by
  have e : env.kindOf y = some .cell := hy
  unfold swappedStores
  dsimp only
  split
  · rfl
  · split
    · rfl
    · split
      · rfl
      · rename_i h
        refine absurd ?_ h
        rw [Bool.or_eq_true]
        refine .inl ?_
        rw [bne_iff_ne]
        refine filterMap_short _ hm ?_
        simp [e]
/-- a, b = x, y with a captured name among them: the tuple is made, then taken apart -/
theorem w1_asgC (j : Nat) {y : Str} {py pt pt2 : Pos} {ts vs : List Expr} {kt k2} (hy : M.N[j]? = some y) (hk : M.kd[j]? = some Kd.ce) (hm : Expr.Name y py ∈ ts) (h : WE G M F (.Tuple vs k2 pt2) Γ fun d => WG G M F (.Tuple ts kt pt) d Γ D.nx)
    (hs : ∀ env, swapsWithSole [.Tuple ts kt pt] (.Tuple vs k2 pt2) pos.line env = pure false := by intro _; rfl)
    (h1 : ∀ env, (assignEach [.Tuple ts kt pt] env).map (·.2) = [assign (.Tuple ts kt pt) env] := by intro _; rfl) : W1 G M F (.Assign [.Tuple ts kt pt] (.Tuple vs k2 pt2) pos) Γ D := by
  refine ⟨fun hΓ X gd σ H S hl g => tWs.of (ps_asg (pe_w _) (pg_w (.Tuple ts kt pt)) (hs X.env) (swap_no (of_decide_eq_true (gd.kd hy hk)) hm) (h1 X.env)) ((h.run X gd σ H S hl g).mono fun v H1 ⟨S1, d, g1, e1, _, hd, q⟩ => ?_)⟩
  exact (q.run hΓ X gd σ H1 S1 v hl g1 hd).mono fun _ _ => PostS.ahead e1

/-! ### lists of one's own -/
def PostF (K : PySem.W.Frag) (F : Fx) (Γ : List Bd) (σ : St) (H S : Hp) (Q : List PyData → Prop) : VK := fun v H' => ∃ S' p xs ds, v = .ref p ∧ H p = none ∧ H' p = some (.lst xs) ∧ S' p = none ∧ F.H0 p = none ∧ (∀ (j : Nat) (es : List PyData), Γ[j]? = some (Bd.mu es) → σ[j]? ≠ some (some (.ref p))) ∧
  GRel K F Γ σ H' S' ∧ Same S S' ∧ Kq F H S H' S' ∧ DpAll K S' xs ds ∧ Q ds
structure WF (G : Gd) (M : Nm) (F : Fx) (e : Expr) (Γ : List Bd) (Q : List PyData → Prop) : Prop where
  run : ∀ X, Good G M X → ∀ σ H S, σ.length = M.N.length → GRel G.K F Γ σ H S → tW X e σ H (PostF G.K F Γ σ H S Q)
theorem PostF.ahead {K : PySem.W.Frag} {σ : St} {H S H1 S1 H' : Hp} {v : V} {Q : List PyData → Prop} (e : Same S S1) (k : Kq F H S H1 S1) (h : PostF K F Γ σ H1 S1 Q v H') : PostF K F Γ σ H S Q v H' := by
  obtain ⟨S', p, xs, ds, h1, h0, h2, h3, h4, h5, h6, h7, h8, h9⟩ := h
  refine ⟨S', p, xs, ds, h1, ?_, h2, h3, h4, h5, h6, e.trans h7, k.trans h8, h9⟩
  cases q : H p with
  | none => rfl
  | some w =>
    obtain ⟨u, e'⟩ := k.dom p w q
    rw [h0] at e'; cases e'
theorem PostF.new {K : PySem.W.Frag} {σ : St} {H S : Hp} {p : Addr} {xs : List V} {ds : List PyData} {Q : List PyData → Prop} (g : GRel K F Γ σ H S) (hp : H p = none) (h : DpAll K S xs ds) (q : Q ds) : PostF K F Γ σ H S Q (.ref p) (upd H p (.lst xs)) := by
  refine ⟨S, p, xs, ds, rfl, hp, upd_same, g.sNone hp, g.h0 hp, fun j es hj z => ?_, g.more _ hp, Same.refl S, Kq.more hp, h, q⟩
  obtain ⟨a, ys, h1, h2, _⟩ := g.own j es hj
  rw [z] at h1
  cases h1
  rw [hp] at h2
  cases h2
/-- a new list that stays -/
theorem PostF.stay {K : PySem.W.Frag} {F : Fx} {Γ : List Bd} {σ : St} {H S H' : Hp} {v : V} {Q : PyData → Prop} (h : PostF K F Γ σ H S (fun ds => Q (.list ds)) v H') : PostE K F Γ σ H S Q v H' := by
  obtain ⟨S', p, xs, ds, e0, h0, h1, h2, h3, h5, g', e', k', hd, q⟩ := h
  subst e0
  have sm : Same S' (upd S' p (.lst xs)) := same_new h2
  refine ⟨upd S' p (.lst xs), _, ?_, e'.trans sm, ⟨k'.kp, k'.dom, fun a u z => ?_⟩, .lst (.inl (.inl upd_same)) (dpa_mono sm hd), q⟩
  rotate_left
  · by_cases w : a = p
    · subst w; exact .inr h0
    · rw [upd_ne w] at z; exact k'.nw a u z
  refine ⟨fun a u z => ?_, g'.s0.trans sm, fun a u z => ?_, g'.keep, fun b hb => ?_, fun i d hi => ?_, fun i ds hi => ?_, g'.raw, g'.sep⟩
  · by_cases w : a = p
    · subst w; rw [upd_same] at z; rw [h1]; exact z
    · rw [upd_ne w] at z; exact g'.ex a u z
  · by_cases w : a = p
    · subst w; exact .inr h3
    · rw [upd_ne w] at z; exact g'.nw a u z
  · obtain ⟨q1, ⟨o, q2⟩, q3⟩ := g'.bag b hb
    have ne : b ≠ p := fun w => by rw [w, h3] at q2; cases q2
    exact ⟨by rw [upd_ne ne]; exact q1, ⟨o, q2⟩, q3.mono sm rfl⟩
  · obtain ⟨v, w1, w2⟩ := g'.loc i d hi
    exact ⟨v, w1, dp_mono sm w2⟩
  · obtain ⟨a, ys, w1, w2, w3, w4, w5⟩ := g'.own i ds hi
    have ne : a ≠ p := fun w => h5 i ds hi (w ▸ w1)
    exact ⟨a, ys, w1, w2, by rw [upd_ne ne]; exact w3, w4, dpa_mono sm w5⟩
theorem we_fresh {Q : PyData → Prop} (h : WF G M F e Γ fun ds => Q (.list ds)) : WE G M F e Γ Q := ⟨fun X gd σ H S hl g => (h.run X gd σ H S hl g).mono fun v H' p => p.stay⟩
theorem wf_list {Q : List PyData → Prop} (h : WL G M F es Γ fun ds => ds.length ≤ lim ∧ Q ds) : WF G M F (.List es pos) Γ Q := by
  refine ⟨fun X gd σ H S hl g => tW.of (pe_lst (pa_w es)) ((h.run X gd σ H S hl g).mono fun vs H1 ⟨S1, ds, g1, e1, k1, hd, z, q⟩ => ?_)⟩
  exact ⟨by rw [hd.len]; exact z, fun p hp => (PostF.new g1 hp hd q).ahead e1 k1⟩
theorem wf_lst {Q : List PyData → Prop} (hm : G.mg "list" = none) (hg : ("list" : Str) ∈ M.gl) (h : WB G M F a Γ fun d => SeqD d Q) (hs : ∀ env, starEach [a] env = [(false, eval a env)] := by intro _; rfl) : WF G M F (.Call (.Name "list" p) [a] [] pos) Γ Q := by
  refine ⟨fun X gd σ H S hl g => tW.of (pe_callTy call_list_of (gd.gl hg) (by rw [gd.mg]; exact hm) (by decide +kernel) (pa_cons (pe_w a) pa_nil (hs X.env)) (he := hs X.env) (hpl := rfl)) ?_⟩
  refine (h.run X gd σ H S hl g).mono fun v H1 ⟨S1, d, g1, e1, k1, hd, q⟩ => ?_
  rw [gd.K]
  cases d <;> try exact q.elim
  · obtain ⟨t, us, rfl, s1, d1⟩ := hd.l g1.ex
    exact ⟨t, us, rfl, .inl s1, fun l hl => (PostF.new g1 hl d1 q).ahead e1 k1⟩
  · obtain ⟨t, us, rfl, s1, d1⟩ := hd.t g1.ex
    exact ⟨t, us, rfl, .inr s1, fun l hl => (PostF.new g1 hl d1 q).ahead e1 k1⟩
theorem w1_own (i : Nat) {x : Str} (hx : Sto M i x) (h : WF G M F e Γ fun ds => D.nx (Γ.set i (Bd.mu ds))) (hs : ∀ env, swapsWith e (some (.Name x p)) pos.line env = pure false := by intro _; rfl) : W1 G M F (.Assign [.Name x p] e pos) Γ D := by
  refine ⟨fun hΓ X gd σ H S hl g => tWs.of (ps_set gd.nd (gd.at hx.1) (gd.sto hx).1 (pe_w e) (hs X.env) (gd.sto hx).2) ?_⟩
  refine (h.run X gd σ H S hl g).mono fun v H1 ⟨S1, p, xs, ds, e0, _, h1, h2, h3, h5, g1, e1, _, hd, q⟩ => ?_
  subst e0
  exact ⟨_, S1, by rw [List.length_set]; exact hl, by rw [List.length_set]; exact hΓ, g1.storeMu (hΓ.trans hl.symm) h1 h2 h3 hd h5, e1, q⟩
theorem w1_append (i : Nat) {x : Str} {ds : List PyData} (hx : Rdb M i x) (hi : Γ[i]? = some (Bd.mu ds)) (h : WE G M F e Γ fun d => ds.length < lim ∧ D.nx (Γ.set i (Bd.mu (ds ++ [d]))))
   
    (hbase : ∀ env, attributeBase (.Name x p) "append" env (eval (.Name x p) env) = eval (.Name x p) env := by intro _; rfl)
    (hfew : ∀ env, ((backTo p3 (starEach [e] env)).all (fun x => !x.1) && (backToKw p3 (keywordEach [] env)).all (fun x => x.1.isSome) && decide ([e].length + ([] : List Keyword).length + (if ([] : List Keyword).isEmpty then 0 else 1) < 30)) = true := by intro _; rfl)
    (hline : (p2.endLine == p3.line) = true := by rfl) (hs : ∀ env, starEach [e] env = [(false, eval e env)] := by intro _; rfl) :
    W1 G M F (.Expr (.Call (.Attribute (.Name x p) "append" p2) [e] [] p3) pos) Γ D := by
  refine ⟨fun hΓ X gd σ H S hl g => tWs.of (ps_expr (pe_bm PySem.F.plainAttrs_list PySem.F.slot_list_append PySem.F.type_list_append mt_append (pe_var (gd.at hx.1) (gd.vis hx) hx.2.2.1 hx.2.2.2) (pa_cons (pe_w e) pa_nil (hs X.env)) (hbase X.env) (hfew X.env) hline (hs X.env) (by rfl)) (by rfl)) ?_⟩
  obtain ⟨a, xs, h1, h2, _⟩ := g.own i ds hi
  refine ⟨_, h1, .inl ⟨rfl, xs, SqL.of h2⟩, ?_⟩
  refine (h.run X gd σ H S hl g).mono fun v H1 ⟨S1, d, g1, e1, _, hd, z, q⟩ => ?_
  obtain ⟨b, ys, k1, k2, k3, k4, k5⟩ := g1.own i ds hi
  rw [h1] at k1
  cases k1
  exact ⟨a, ys, v, rfl, rfl, k2, by rw [k5.len]; exact z, _, S1, hl, by rw [List.length_set]; exact hΓ, g1.change hi h1 (k5.app (.one hd)), e1, q⟩
theorem w1_extend (i : Nat) {x : Str} {ds : List PyData} (hx : Rdb M i x) (hi : Γ[i]? = some (Bd.mu ds)) (h : WF G M F e Γ fun es => ds.length + es.length ≤ lim ∧ D.nx (Γ.set i (Bd.mu (ds ++ es))))
    (hbase : ∀ env, attributeBase (.Name x p) "extend" env (eval (.Name x p) env) = eval (.Name x p) env := by intro _; rfl)
    (hfew : ∀ env, ((backTo p3 (starEach [e] env)).all (fun x => !x.1) && (backToKw p3 (keywordEach [] env)).all (fun x => x.1.isSome) && decide ([e].length + ([] : List Keyword).length + (if ([] : List Keyword).isEmpty then 0 else 1) < 30)) = true := by intro _; rfl)
    (hline : (p2.endLine == p3.line) = true := by rfl) (hs : ∀ env, starEach [e] env = [(false, eval e env)] := by intro _; rfl) :
    W1 G M F (.Expr (.Call (.Attribute (.Name x p) "extend" p2) [e] [] p3) pos) Γ D := by
  refine ⟨fun hΓ X gd σ H S hl g => tWs.of (ps_expr (pe_bm PySem.F.plainAttrs_list PySem.F.slot_list_extend PySem.F.type_list_extend mt_extend (pe_var (gd.at hx.1) (gd.vis hx) hx.2.2.1 hx.2.2.2) (pa_cons (pe_w e) pa_nil (hs X.env)) (hbase X.env) (hfew X.env) hline (hs X.env) (by rfl)) (by rfl)) ?_⟩
  obtain ⟨a, xs, h1, h2, _⟩ := g.own i ds hi
  refine ⟨_, h1, .inl ⟨rfl, xs, SqL.of h2⟩, ?_⟩
  refine (h.run X gd σ H S hl g).mono fun v H1 ⟨S1, p, zs, es, e0, _, w1, w2, w3, w5, g1, e1, _, hd, z, q⟩ => ?_
  subst e0
  obtain ⟨b, ys, k1, k2, k3, k4, k5⟩ := g1.own i ds hi
  rw [h1] at k1
  cases k1
  exact ⟨a, p, ys, zs, rfl, rfl, k2, w1, by rw [k5.len, hd.len]; exact z, _, S1, hl, by rw [List.length_set]; exact hΓ, g1.change hi h1 (k5.app hd), e1, q⟩
theorem w1_insert (i : Nat) {x : Str} {ds : List PyData} (hx : Rdb M i x) (hi : Γ[i]? = some (Bd.mu ds)) (h : WL G M F [a, b] Γ fun es => ∃ k d, es = [.int k, d] ∧ ds.length < lim ∧ 0 ≤ k ∧ k < 2 ^ 63 ∧ D.nx (Γ.set i (Bd.mu (ds.take k.toNat ++ [d] ++ ds.drop k.toNat))))
   
    (hbase : ∀ env, attributeBase (.Name x p) "insert" env (eval (.Name x p) env) = eval (.Name x p) env := by intro _; rfl)
    (hfew : ∀ env, ((backTo p3 (starEach [a, b] env)).all (fun x => !x.1) && (backToKw p3 (keywordEach [] env)).all (fun x => x.1.isSome) && decide ([a, b].length + ([] : List Keyword).length + (if ([] : List Keyword).isEmpty then 0 else 1) < 30)) = true := by intro _; rfl)
    (hline : (p2.endLine == p3.line) = true := by rfl) (hs : ∀ env, starEach [a, b] env = (false, eval a env) :: starEach [b] env := by intro _; rfl) (hpl : ∀ env, (backTo p3 (starEach [b] env)).any (·.1) = false := by intro _; rfl) :
    W1 G M F (.Expr (.Call (.Attribute (.Name x p) "insert" p2) [a, b] [] p3) pos) Γ D := by
  refine ⟨fun hΓ X gd σ H S hl g => tWs.of (ps_expr (pe_bm PySem.F.plainAttrs_list PySem.F.slot_list_insert PySem.F.type_list_insert mt_insert (pe_var (gd.at hx.1) (gd.vis hx) hx.2.2.1 hx.2.2.2) (pa_w [a, b]) (hbase X.env) (hfew X.env) hline (hs X.env) (hpl X.env)) (by rfl)) ?_⟩
  obtain ⟨t, xs, h1, h2, _⟩ := g.own i ds hi
  refine ⟨_, h1, .inl ⟨rfl, xs, SqL.of h2⟩, ?_⟩
  refine (h.run X gd σ H S hl g).mono fun vs H1 ⟨S1, es, g1, e1, _, hd, k, d, ees, z, r1, r2, q⟩ => ?_
  subst ees
  obtain ⟨b, ys, k1, k2, k3, k4, k5⟩ := g1.own i ds hi
  rw [h1] at k1
  cases k1
  cases hd with
  | cons a1 a2 =>
    cases a2 with
    | cons a2 a3 =>
      cases a3
      cases a1
      exact ⟨t, ys, k, _, rfl, rfl, k2, by rw [k5.len]; exact z, r1, r2, _, S1, hl, by rw [List.length_set]; exact hΓ, g1.change hi h1 (((k5.take k.toNat).app (.one a2)).app (k5.drop k.toNat)), e1, q⟩
/-- xs[k] = v -/
theorem w1_setAt (i : Nat) {x : Str} {ds : List PyData} (hx : Rdb M i x) (hi : Γ[i]? = some (Bd.mu ds)) (h : WE G M F e Γ fun d => WE G M F b Γ fun k => ∃ m j, k = .int m ∧ ixN ds.length m = some j ∧ D.nx (Γ.set i (Bd.mu (ds.set j d))))
   
    (hs : ∀ env, swapsWithSole [.Subscript (.Name x p) b p2] e pos.line env = pure false := by intro _; rfl) (hw : ∀ env, swappedStores [.Subscript (.Name x p) b p2] e env = pure none := by intro _; rfl)
    (h1 : ∀ env, (assignEach [.Subscript (.Name x p) b p2] env).map (·.2) = [assign (.Subscript (.Name x p) b p2) env] := by intro _; rfl)
    (ha : ∀ env v, assign (.Subscript (.Name x p) b p2) env v = (do
      let ov ← holding [v] (eval (.Name x p) env)
      let iv ← holding [v, ov] (eval b env)
      standAt p2
      holding [v, ov, iv] (setItem ov iv v)
      release [v, ov, iv] []) := by intro _ _; rfl) : W1 G M F (.Assign [.Subscript (.Name x p) b p2] e pos) Γ D := by
  refine ⟨fun hΓ X gd σ H S hl g => tWs.of (ps_asg (pe_w e) (pg_sub (pe_var (gd.at hx.1) (gd.vis hx) hx.2.2.1 hx.2.2.2) (pe_w b) set_list (ha X.env)) (hs X.env) (hw X.env) (h1 X.env)) ?_⟩
  refine (h.run X gd σ H S hl g).mono fun v H1 ⟨S1, d, g1, e1, _, hd, q1⟩ => ?_
  obtain ⟨t, xs, r1, r2, _⟩ := g1.own i ds hi
  refine ⟨_, r1, (q1.run X gd σ H1 S1 hl g1).mono fun u H2 ⟨S2, k, g2, e2, _, hk, m, j, em, hj, q⟩ => ?_⟩
  subst em
  cases hk
  obtain ⟨t', ys, k1, k2, k3, k4, k5⟩ := g2.own i ds hi
  rw [r1] at k1
  cases k1
  exact ⟨t, ys, m, j, rfl, rfl, k2, by rw [k5.len]; exact hj, _, S2, hl, by rw [List.length_set]; exact hΓ, g2.change hi r1 (k5.setAt j (dp_mono e2 hd)), e1.trans e2, q⟩
end
end DW

namespace DW
open PySem PySem.Spec L2
open PyProof.Rows hiding St

/-! ### what is walked -/
structure IterOk (K : PySem.W.Frag) (J : It) (ds : List PyData) (S : Hp) : Prop where
  go : ∀ (i : Nat) (d : PyData) (H' S' : Hp), Same S S' → Same S' H' → ds[i]? = some d → J.go i H' ∧ ∀ x H'', J.yld i H' x H'' →
    (H'' = H' ∧ Dp K S' x d) ∨ ∃ T xs es, x = .ref T ∧ H' T = none ∧ H'' = upd H' T (.tup xs) ∧ d = .tuple es ∧ DpAll K S' xs es
  stop : ∀ (i : Nat) (H' S' : Hp), Same S S' → Same S' H' → ds.length ≤ i → J.stop i H'
section
variable {K : PySem.W.Frag} {S : Hp}
theorem iter_list {a : Addr} {xs : List V} {ds : List PyData} (h : SqL K S a xs) (hd : DpAll K S xs ds) : IterOk K (Itl K a) ds S := by
  refine ⟨fun i d H' S' e x hi => ?_, fun i H' S' e x hi => ⟨xs, same_l (e.trans x) h, by rw [hd.len]; exact hi⟩⟩
  obtain ⟨v, h1, h2⟩ := hd.get hi
  refine ⟨⟨xs, v, same_l (e.trans x) h, h1⟩, fun y H'' ⟨h3, h4⟩ => .inl ⟨h3, ?_⟩⟩
  have := h4 xs (same_l (e.trans x) h)
  rw [h1] at this
  cases this
  exact dp_mono e h2
theorem iter_tup {a : Addr} {xs : List V} {ds : List PyData} (h : SqT K S a xs) (hd : DpAll K S xs ds) : IterOk K (Itt K a) ds S := by
  refine ⟨fun i d H' S' e x hi => ?_, fun i H' S' e x hi => ⟨xs, same_t (e.trans x) h, by rw [hd.len]; exact hi⟩⟩
  obtain ⟨v, h1, h2⟩ := hd.get hi
  refine ⟨⟨xs, v, same_t (e.trans x) h, h1⟩, fun y H'' ⟨h3, h4⟩ => .inl ⟨h3, ?_⟩⟩
  have := h4 xs (same_t (e.trans x) h)
  rw [h1] at this
  cases this
  exact dp_mono e h2
def rngD (lo : Int) (n : Nat) : List PyData := (List.range n).map fun i => PyData.int (lo + (i : Nat))
theorem rngD_len (lo : Int) (n : Nat) : (rngD lo n).length = n := by unfold rngD; rw [List.length_map, List.length_range]
theorem rngD_get {lo : Int} {n i : Nat} {d : PyData} (h : (rngD lo n)[i]? = some d) : i < n ∧ d = .int (lo + (i : Nat)) := by
  have hi : i < n := by
    have := (List.getElem?_eq_some_iff.mp h).1
    rwa [rngD_len] at this
  unfold rngD at h
  rw [List.getElem?_map, List.getElem?_range hi] at h
  exact ⟨hi, (Option.some.inj h).symm⟩
theorem iter_rng {lo : Int} {n : Nat} : IterOk K (Itr lo n) (rngD lo n) S := by
  refine ⟨fun i d H' S' e x hi => ?_, fun i H' S' e x hi => by rw [rngD_len] at hi; exact hi⟩
  obtain ⟨h1, rfl⟩ := rngD_get hi
  exact ⟨h1, fun y H'' ⟨h3, h4⟩ => .inl ⟨h3, by rw [h4]; exact .int _⟩⟩
def zipD (xs ys : List PyData) : List PyData := List.zipWith (fun x y => PyData.tuple [x, y]) xs ys
theorem zip_get {xs ys : List PyData} {i : Nat} {d : PyData} (h : (zipD xs ys)[i]? = some d) : ∃ x y, xs[i]? = some x ∧ ys[i]? = some y ∧ d = .tuple [x, y] := by
  unfold zipD at h
  rw [List.getElem?_zipWith] at h
  cases h1 : xs[i]? with
  | none => rw [h1] at h; cases h
  | some x =>
    cases h2 : ys[i]? with
    | none => rw [h1, h2] at h; cases h
    | some y =>
      rw [h1, h2] at h
      exact ⟨x, y, rfl, rfl, (Option.some.inj h).symm⟩
theorem zip_len (xs ys : List PyData) : (zipD xs ys).length = min xs.length ys.length := by unfold zipD; exact List.length_zipWith
theorem iter_zipL {a b : Addr} {xs ys : List V} {ds es : List PyData} (h : SqL K S a xs) (h' : SqL K S b ys) (hd : DpAll K S xs ds) (hd' : DpAll K S ys es) : IterOk K (Itz K a b) (zipD ds es) S := by
  refine ⟨fun i d H' S' e x hi => ?_, fun i H' S' e x hi => ⟨xs, ys, same_l (e.trans x) h, same_l (e.trans x) h', by rw [hd.len, hd'.len]; rw [zip_len] at hi; omega⟩⟩
  obtain ⟨d1, d2, z1, z2, rfl⟩ := zip_get hi
  obtain ⟨v, h1, h2⟩ := hd.get z1
  obtain ⟨v', h1', h2'⟩ := hd'.get z2
  refine ⟨⟨xs, ys, v, v', same_l (e.trans x) h, same_l (e.trans x) h', h1, h1'⟩, fun y H'' ⟨T, p, q, e1, e2, e3, e4, e5⟩ => .inr ⟨T, [p, q], [d1, d2], e1, e2, e3, rfl, ?_⟩⟩
  have w1 := e4 xs (same_l (e.trans x) h)
  have w2 := e5 ys (same_l (e.trans x) h')
  rw [h1] at w1
  rw [h1'] at w2
  cases w1
  cases w2
  exact .cons (dp_mono e h2) (.cons (dp_mono e h2') .nil)
theorem iter_zipT {a b : Addr} {xs ys : List V} {ds es : List PyData} (h : SqT K S a xs) (h' : SqT K S b ys) (hd : DpAll K S xs ds) (hd' : DpAll K S ys es) : IterOk K (RZ.ItzT K a b) (zipD ds es) S := by
  refine ⟨fun i d H' S' e x hi => ?_, fun i H' S' e x hi => ⟨xs, ys, same_t (e.trans x) h, same_t (e.trans x) h', by rw [hd.len, hd'.len]; rw [zip_len] at hi; omega⟩⟩
  obtain ⟨d1, d2, z1, z2, rfl⟩ := zip_get hi
  obtain ⟨v, h1, h2⟩ := hd.get z1
  obtain ⟨v', h1', h2'⟩ := hd'.get z2
  refine ⟨⟨xs, ys, v, v', same_t (e.trans x) h, same_t (e.trans x) h', h1, h1'⟩, fun y H'' ⟨T, p, q, e1, e2, e3, e4, e5⟩ => .inr ⟨T, [p, q], [d1, d2], e1, e2, e3, rfl, ?_⟩⟩
  have w1 := e4 xs (same_t (e.trans x) h)
  have w2 := e5 ys (same_t (e.trans x) h')
  rw [h1] at w1
  rw [h1'] at w2
  cases w1
  cases w2
  exact .cons (dp_mono e h2) (.cons (dp_mono e h2') .nil)
def enumD (xs : List PyData) : List PyData := xs.zipIdx.map fun p => PyData.tuple [.int (p.2 : Nat), p.1]
theorem enum_len (xs : List PyData) : (enumD xs).length = xs.length := by unfold enumD; rw [List.length_map, List.length_zipIdx]
theorem enum_get {xs : List PyData} {i : Nat} {d : PyData} (h : (enumD xs)[i]? = some d) : ∃ x, xs[i]? = some x ∧ d = .tuple [.int (i : Nat), x] := by
  unfold enumD at h
  rw [List.getElem?_map, List.getElem?_zipIdx] at h
  cases h1 : xs[i]? with
  | none => rw [h1] at h; cases h
  | some x =>
    rw [h1] at h
    refine ⟨x, rfl, ?_⟩
    have := (Option.some.inj h).symm
    simpa using this
theorem iter_enumL {a : Addr} {xs : List V} {ds : List PyData} (h : SqL K S a xs) (hd : DpAll K S xs ds) : IterOk K (Ite K a) (enumD ds) S := by
  refine ⟨fun i d H' S' e x hi => ?_, fun i H' S' e x hi => ⟨xs, same_l (e.trans x) h, by rw [hd.len]; rw [enum_len] at hi; exact hi⟩⟩
  obtain ⟨d1, z1, rfl⟩ := enum_get hi
  obtain ⟨v, h1, h2⟩ := hd.get z1
  refine ⟨⟨xs, v, same_l (e.trans x) h, h1⟩, fun y H'' ⟨T, p, e1, e2, e3, e4⟩ => .inr ⟨T, [.int (i : Nat), p], [.int (i : Nat), d1], e1, e2, e3, rfl, ?_⟩⟩
  have w1 := e4 xs (same_l (e.trans x) h)
  rw [h1] at w1
  cases w1
  exact .cons (.int _) (.cons (dp_mono e h2) .nil)
end
def tWi (X : Cx) (tg iter : Expr) : TI := fun σ H R => ∀ pins s, Inv X pins σ H s → wpAny (model X.prog X.w) X.A (eval iter X.env) (fun v s1 => wpAny (model X.prog X.w) X.A (pyIter v) (PIE X pins σ tg R) X.xe s1) X.xe s
theorem pi_w {X : Cx} (tg iter : Expr) : PI X tg iter (tWi X tg iter) := ⟨fun pins s _ _ _ I h => h pins s I⟩
theorem tWi.of {X : Cx} {tg iter : Expr} {t : TI} {σ : St} {H : Hp} {R : It → Hp → Prop} (p : PI X tg iter t) (h : t σ H R) : tWi X tg iter σ H R := fun pins s I => p.run pins s σ H R I h
theorem tW.knows {X : Cx} {e : Expr} {σ : St} {H : Hp} {Q : VK} (h : tW X e σ H fun v H' => (∃ pins s, Inv X pins σ H' s) → Q v H') : tW X e σ H Q :=
  fun pins s I => thn (h pins s I) fun _ s' ⟨v, H', I', r, q⟩ => ⟨v, H', I', r, q ⟨pins, s', I'⟩⟩
theorem tWa.knows {X : Cx} {es : List Expr} {σ : St} {H : Hp} {Q : List V → Hp → Prop} (h : tWa X es σ H fun v H' => (∃ pins s, Inv X pins σ H' s) → Q v H') : tWa X es σ H Q :=
  fun pos pins s I => thn (h pos pins s I) fun _ s' ⟨v, H', I', r, q⟩ => ⟨v, H', I', r, q ⟨pins, s', I'⟩⟩
/-- a list or a tuple, whichever comes -/
def iSeq (K : PySem.W.Frag) (tl : TE) : TI := fun σ H R => tl σ H fun x H1 => ∃ a, x = .ref a ∧ ((∃ xs, SqL K H1 a xs ∧ R (Itl K a) H1) ∨ ∃ xs, SqT K H1 a xs ∧ R (Itt K a) H1)
theorem pi_seq {X : Cx} {tg l : Expr} {tl : TE} (hl : PE X l tl) : PI X tg l (iSeq X.K tl) := by
  refine ⟨fun pins s σ H R I h => thn (hl.run pins s σ H _ I h) ?_⟩
  rintro v s1 ⟨x, H1, I1, r1, a, ex, q⟩
  subst ex
  cases r1
  have one : ∀ b ∈ [s1.heap.objs.size], FpOk X pins H1 b := fun b hb => by
    rw [List.mem_singleton.mp hb]
    exact I1.fpOk (Nat.le_refl _) (I1.hok.fresh (Nat.le_refl _))
  rcases q with ⟨xs, hq, q⟩ | ⟨xs, hq, q⟩
  · obtain ⟨its, _, pl, _⟩ := I1.list hq
    refine wpAny_pyIter_list pl.isList ⟨_, [_], _, _, H1, rfl, ?_, turn_list a _, ⟨_, Heap.get?_push_size _ rfl, rfl, rfl⟩, one, q⟩
    exact I1.kept (t' := s1.toks) fun _ _ z => Heap.get?_push_of_some _ z
  · obtain ⟨its, _, pl, _⟩ := I1.tuple hq
    refine wpAny_pyIter_tuple (items := its.toArray) pl ⟨_, [_], _, _, H1, rfl, ?_, turn_tuple a _, ⟨_, Heap.get?_push_size _ rfl, rfl, rfl⟩, one, q⟩
    exact I1.kept (t' := s1.toks) fun _ _ z => Heap.get?_push_of_some _ z
structure WI (G : Gd) (M : Nm) (F : Fx) (tg iter : Expr) (Γ : List Bd) (Q : List PyData → Prop) : Prop where
  run : ∀ X, Good G M X → ∀ σ H S, σ.length = M.N.length → GRel G.K F Γ σ H S → tWi X tg iter σ H fun J H1 => ∃ S1 ds, GRel G.K F Γ σ H1 S1 ∧ Same S S1 ∧ Kq F H S H1 S1 ∧ IterOk G.K J ds S1 ∧ ds.length ≤ lim ∧ Q ds
section
variable {G : Gd} {M : Nm} {F : Fx} {Γ : List Bd} {D : DE} {pos p p2 p3 : Pos} {a b c e tg iter : Expr} {es : List Expr} {Q : List PyData → Prop}
theorem sq_len {X : Cx} {pins : List (Addr × Obj)} {σ : St} {H : Hp} {s : Shared} {q : Addr} {xs : List V} (I : Inv X pins σ H s) (h : SqL X.K H q xs ∨ SqT X.K H q xs) : xs.length ≤ lim := by
  rcases h with h | h
  · obtain ⟨_, _, _, z⟩ := I.list h; exact z
  · obtain ⟨_, _, _, z⟩ := I.tuple h; exact z
theorem wi_seq (h : WE G M F iter Γ fun d => SeqD d Q) : WI G M F tg iter Γ Q := by
  refine ⟨fun X gd σ H S hl g => tWi.of (pi_seq (pe_w iter)) (tW.knows ((h.run X gd σ H S hl g).mono fun v H1 ⟨S1, d, g1, e1, k1, hd, q⟩ ⟨pins, s, I⟩ => ?_))⟩
  rw [gd.K]
  cases hd with
  | lst h1 h2 =>
    exact ⟨_, rfl, .inl ⟨_, same_l g1.ex h1, S1, _, g1, e1, k1, iter_list h1 h2, by rw [← h2.len]; exact sq_len I (.inl (by rw [gd.K]; exact same_l g1.ex h1)), q⟩⟩
  | tup h1 h2 =>
    exact ⟨_, rfl, .inr ⟨_, same_t g1.ex h1, S1, _, g1, e1, k1, iter_tup h1 h2, by rw [← h2.len]; exact sq_len I (.inr (by rw [gd.K]; exact same_t g1.ex h1)), q⟩⟩
  | _ => exact q.elim
theorem wi_range (hm : G.mg "range" = none) (hg : ("range" : Str) ∈ M.gl) (h : WL G M F [a] Γ fun ds => ∃ n : Int, ds = [.int n] ∧ n ≤ 16777216 ∧ -1000000 ≤ n ∧ Q (rngD 0 n.toNat)) (hs : ∀ env, starEach [a] env = [(false, eval a env)] := by intro _; rfl) : WI G M F tg (.Call (.Name "range" p) [a] [] pos) Γ Q := by
  refine ⟨fun X gd σ H S hl g => tWi.of (pi_range1 (gd.gl hg) (by rw [gd.mg]; exact hm) (pa_w [a]) (hs X.env)) ((h.run X gd σ H S hl g).mono fun vs H1 ⟨S1, ds, g1, e1, k1, hd, n, en, z1, z2, q⟩ => ?_)⟩
  subst en
  cases hd with
  | cons r rr =>
    cases rr
    cases r
    exact ⟨n, rfl, by omega, by omega, S1, _, g1, e1, k1, iter_rng, by rw [rngD_len, lim_eq]; omega, q⟩
theorem wi_range2 (hm : G.mg "range" = none) (hg : ("range" : Str) ∈ M.gl) (h : WL G M F [a, b] Γ fun ds => ∃ n m : Int, ds = [.int n, .int m] ∧ (n ≤ 16777216 ∧ -1000000 ≤ n ∧ m ≤ 16777216 ∧ -1000000 ≤ m ∧ m - n ≤ 16777216) ∧ Q (rngD n (m - n).toNat))
    (hs : ∀ env, starEach [a, b] env = [(false, eval a env), (false, eval b env)] := by intro _; rfl) (hs2 : ∀ env, starEach [b] env = [(false, eval b env)] := by intro _; rfl) : WI G M F tg (.Call (.Name "range" p) [a, b] [] pos) Γ Q := by
  refine ⟨fun X gd σ H S hl g => tWi.of (pi_range2 (gd.gl hg) (by rw [gd.mg]; exact hm) (pa_w [a, b]) (hs X.env) (hs2 X.env)) ((h.run X gd σ H S hl g).mono fun vs H1 ⟨S1, ds, g1, e1, k1, hd, n, m, en, z, q⟩ => ?_)⟩
  subst en
  cases hd with
  | cons r rr =>
    cases rr with
    | cons r' rr =>
      cases rr
      cases r
      cases r'
      exact ⟨n, m, rfl, by omega, S1, _, g1, e1, k1, iter_rng, by rw [rngD_len, lim_eq]; omega, q⟩
/-- two of one kind -/
def ZipD : PyData → PyData → (List PyData → Prop) → Prop
  | .list xs, .list ys, Q => Q (zipD xs ys)
  | .tuple xs, .tuple ys, Q => Q (zipD xs ys)
  | _, _, _ => False
theorem wi_zip {elts : List Expr} {kk : Nat} {tp : Pos} (hm : G.mg "zip" = none) (hg : ("zip" : Str) ∈ M.gl) (h : WL G M F [a, b] Γ fun ds => ∃ d e, ds = [d, e] ∧ ZipD d e Q)
    (hs : ∀ env, starEach [a, b] env = (false, eval a env) :: starEach [b] env := by intro _; rfl) (hpl : ∀ env, (backTo pos (starEach [b] env)).any (·.1) = false := by intro _; rfl) : WI G M F (.Tuple elts kk tp) (.Call (.Name "zip" p) [a, b] [] pos) Γ Q := by
  refine ⟨fun X gd σ H S hl g => tWi.of (RZ.pi_zipA (gd.gl hg) (by rw [gd.mg]; exact hm) (pa_w [a, b]) (hs X.env) (hpl X.env)) (tWa.knows ((h.run X gd σ H S hl g).mono fun vs H1 ⟨S1, ds, g1, e1, k1, hd, d, e, en, q⟩ ⟨pins, s, I⟩ => ?_))⟩
  subst en
  cases hd with
  | cons r rr =>
    cases rr with
    | cons r' rr =>
      cases rr
      rw [gd.K]
      have kl : ∀ {q : Addr} {xs : List V} {ys zs : List PyData}, SqL G.K S1 q xs ∨ SqT G.K S1 q xs → DpAll G.K S1 xs ys → (zipD ys zs).length ≤ lim := fun {q xs ys zs} h1 h2 => by
        have : xs.length ≤ lim := sq_len I (by rw [gd.K]; exact h1.imp (same_l g1.ex) (same_t g1.ex))
        rw [zip_len, ← h2.len]; omega
      cases r with
      | lst h1 h2 =>
        cases r' with
        | lst h3 h4 =>
          exact ⟨_, _, _, _, rfl, .inl ⟨same_l g1.ex h1, same_l g1.ex h3, S1, _, g1, e1, k1, iter_zipL h1 h3 h2 h4, kl (.inl h1) h2, q⟩⟩
        | _ => exact q.elim
      | tup h1 h2 =>
        cases r' with
        | tup h3 h4 =>
          exact ⟨_, _, _, _, rfl, .inr ⟨same_t g1.ex h1, same_t g1.ex h3, S1, _, g1, e1, k1, iter_zipT h1 h3 h2 h4, kl (.inr h1) h2, q⟩⟩
        | _ => exact q.elim
      | _ => exact q.elim
theorem wi_enum {elts : List Expr} {kk : Nat} {tp : Pos} (hm : G.mg "enumerate" = none) (hg : ("enumerate" : Str) ∈ M.gl) (h : WL G M F [a] Γ fun ds => ∃ xs, ds = [.list xs] ∧ Q (enumD xs))
    (hs : ∀ env, starEach [a] env = [(false, eval a env)] := by intro _; rfl) : WI G M F (.Tuple elts kk tp) (.Call (.Name "enumerate" p) [a] [] pos) Γ Q := by
  refine ⟨fun X gd σ H S hl g => tWi.of (pi_enum (gd.gl hg) (by rw [gd.mg]; exact hm) (pa_w [a]) (hs X.env)) (tWa.knows ((h.run X gd σ H S hl g).mono fun vs H1 ⟨S1, ds, g1, e1, k1, hd, xs, en, q⟩ ⟨pins, s, I⟩ => ?_))⟩
  subst en
  cases hd with
  | cons r rr =>
    cases rr
    rw [gd.K]
    cases r with
    | lst h1 h2 =>
      exact ⟨_, _, rfl, same_l g1.ex h1, S1, _, g1, e1, k1, iter_enumL h1 h2, by rw [enum_len, ← h2.len]; exact sq_len I (.inl (by rw [gd.K]; exact same_l g1.ex h1)), q⟩

/-! ### for -/
theorem GRel.yield {K : PySem.W.Frag} {Γ : List Bd} {σ : St} {H S H' : Hp} {x : V} {d : PyData} (g : GRel K F Γ σ H S) (h : (H' = H ∧ Dp K S x d) ∨ ∃ T xs es, x = .ref T ∧ H T = none ∧ H' = upd H T (.tup xs) ∧ d = .tuple es ∧ DpAll K S xs es) :
    ∃ S', GRel K F Γ σ H' S' ∧ Same S S' ∧ Kq F H S H' S' ∧ Dp K S' x d := by
  rcases h with ⟨rfl, h⟩ | ⟨T, xs, es, rfl, h1, rfl, rfl, h2⟩
  · exact ⟨S, g, Same.refl S, Kq.refl _ S, h⟩
  · have sm := same_new (o := .tup xs) (g.sNone h1)
    exact ⟨_, g.new _ h1, sm, Kq.new h1, .tup (.inl (.inl upd_same)) (dpa_mono sm h2)⟩
theorem w1_for {body : List Stmt} (J : Nat → List Bd → Prop) (h : WI G M F tg iter Γ fun ds => J 0 Γ ∧ (∀ (i : Nat) (d : PyData) (Γ1 : List Bd), ds[i]? = some d → J i Γ1 → WG G M F tg d Γ1 fun Γ2 => WS G M F body Γ2 ⟨J (i + 1), D.rt, D.nx, J (i + 1)⟩) ∧ ∀ Γ1, J ds.length Γ1 → D.nx Γ1)
    (hs : ∀ env x, foldedSetIterable iter env x = pure x := by intro _ _; rfl) : W1 G M F (.For tg iter body [] pos) Γ D := by
  refine ⟨fun hΓ X gd σ H S hl g => tWs.of (ps_for (by rw [gd.xe]; exact PassesOwn.never) gd.calm (pi_w tg iter) (pg_w tg) (pss_w body) (hs X.env)) ?_⟩
  refine fun pins s I => thn (h.run X gd σ H S hl g pins s I) fun v s1 h1 => thn h1 fun itv s2 ⟨it, fp, tn, It, H1, e0, I2, T, st2, f2, S1, ds, g1, e1, _, io, _, j0, jt, jd⟩ => ?_
  refine ⟨it, fp, tn, It, H1, e0, I2, T, st2, f2, ?_⟩
  refine ⟨fun i m σ' H' => m = ds.length - i ∧ i ≤ ds.length ∧ ∃ Γ1 S', σ'.length = M.N.length ∧ Γ1.length = M.N.length ∧ GRel G.K F Γ1 σ' H' S' ∧ Same S1 S' ∧ J i Γ1, ⟨ds.length, rfl, Nat.zero_le _, Γ, S1, hl, hΓ, g1, Same.refl S1, j0⟩, ?_⟩
  rintro i m σ' H' ⟨rfl, hi, Γ1, S', q1, q1', q2, q3, q4⟩
  by_cases hlt : i < ds.length
  · obtain ⟨go, yl⟩ := io.go i ds[i] H' S' q3 q2.ex (List.getElem?_eq_getElem hlt)
    refine .inr ⟨go, fun σ2 H2 => ∃ Γ2 S2, σ2.length = M.N.length ∧ Γ2.length = M.N.length ∧ GRel G.K F Γ2 σ2 H2 S2 ∧ Same S1 S2 ∧ J (i + 1) Γ2, fun σ2 H2 w => ⟨ds.length - (i + 1), by omega, rfl, by omega, w⟩, fun x H'' y => ?_⟩
    obtain ⟨S3, g3, e3, _, d3⟩ := q2.yield (yl x H'' y)
    refine ((jt i ds[i] Γ1 (List.getElem?_eq_getElem hlt) q4).run q1' X gd σ' H'' S3 x q1 g3 d3).mono fun σ4 H4 ⟨Γ4, S4, r1, r1', r2, r3, r4⟩ => ?_
    refine (r4.run r1' X gd σ4 H4 S4 r1 r2).mono ?_ ?_ ?_ ?_
    · rintro σ5 H5 ⟨Γ5, S5, w1, w1', w2, w3, w4⟩
      exact ⟨Γ5, S5, w1, w1', w2, q3.trans (e3.trans (r3.trans w3)), w4⟩
    · rintro v H5 ⟨S5, d, w1, w2, w3, w4⟩
      exact ⟨S5, d, w1, e1.trans (q3.trans (e3.trans (r3.trans w2))), w3, w4⟩
    · rintro σ5 H5 ⟨Γ5, S5, w1, w1', w2, w3, w4⟩
      exact ⟨Γ5, S5, w1, w1', w2, e1.trans (q3.trans (e3.trans (r3.trans w3))), w4⟩
    · rintro σ5 H5 ⟨Γ5, S5, w1, w1', w2, w3, w4⟩
      exact ⟨Γ5, S5, w1, w1', w2, q3.trans (e3.trans (r3.trans w3)), w4⟩
  · have e : i = ds.length := by omega
    subst e
    exact .inl ⟨io.stop ds.length H' S' q3 q2.ex (Nat.le_refl _), Γ1, S', q1, q1', q2, e1.trans q3, jd Γ1 q4⟩
/-- while, by a word and a number that falls -/
theorem w1_while {body : List Stmt} (J : Nat → List Bd → Prop) (m0 : Nat) (h0 : J m0 Γ) (h : ∀ m Γ1, J m Γ1 → WT G M F c Γ1 fun x => (x = true → WS G M F body Γ1 ⟨fun Γ2 => ∃ m', m' < m ∧ J m' Γ2, D.rt, D.nx, fun Γ2 => ∃ m', m' < m ∧ J m' Γ2⟩) ∧ (x = false → D.nx Γ1)) : W1 G M F (.While c body [] pos) Γ D := by
  refine ⟨fun hΓ X gd σ H S hl g => tWs.of (ps_while (by rw [gd.xe]; exact PassesOwn.never) (pt_w c) (pss_w body)) ?_⟩
  refine ⟨fun m σ' H' => ∃ Γ1 S', σ'.length = M.N.length ∧ Γ1.length = M.N.length ∧ GRel G.K F Γ1 σ' H' S' ∧ Same S S' ∧ J m Γ1, ⟨m0, Γ, S, hl, hΓ, g, Same.refl S, h0⟩, ?_⟩
  rintro m σ' H' ⟨Γ1, S', q1, q1', q2, q3, q4⟩
  refine ((h m Γ1 q4).run X gd σ' H' S' q1 q2).mono fun x H1 ⟨S1, g1, e1, _, r1, r2⟩ => ?_
  cases x with
  | false => rw [if_neg Bool.false_ne_true]; exact ⟨Γ1, S1, q1, q1', g1, q3.trans e1, r2 rfl⟩
  | true =>
    rw [if_pos rfl]
    refine ⟨fun σ2 H2 => ∃ m', m' < m ∧ ∃ Γ2 S2, σ2.length = M.N.length ∧ Γ2.length = M.N.length ∧ GRel G.K F Γ2 σ2 H2 S2 ∧ Same S S2 ∧ J m' Γ2, fun σ2 H2 w => w, ?_⟩
    refine ((r1 rfl).run q1' X gd σ' H1 S1 q1 g1).mono ?_ ?_ ?_ ?_
    · rintro σ5 H5 ⟨Γ5, S5, w1, w1', w2, w3, m', hm, w4⟩
      exact ⟨m', hm, Γ5, S5, w1, w1', w2, q3.trans (e1.trans w3), w4⟩
    · rintro v H5 ⟨S5, d, w1, w2, w3, w4⟩
      exact ⟨S5, d, w1, q3.trans (e1.trans w2), w3, w4⟩
    · rintro σ5 H5 ⟨Γ5, S5, w1, w1', w2, w3, w4⟩
      exact ⟨Γ5, S5, w1, w1', w2, q3.trans (e1.trans w3), w4⟩
    · rintro σ5 H5 ⟨Γ5, S5, w1, w1', w2, w3, m', hm, w4⟩
      exact ⟨m', hm, Γ5, S5, w1, w1', w2, q3.trans (e1.trans w3), w4⟩
end
end DW

namespace DW
open PySem PySem.Spec L2
open PyProof.Rows hiding St

/-! ### comprehensions -/
def wipeG (Γ : List Bd) : List Nat → List Bd
  | [] => Γ
  | v :: vs => (wipeG Γ vs).set v Bd.no
theorem wipeG_len (Γ : List Bd) : ∀ vs, (wipeG Γ vs).length = Γ.length
  | [] => rfl
  | v :: vs => by unfold wipeG; rw [List.length_set, wipeG_len Γ vs]
theorem wipeG_some {Γ : List Bd} {i : Nat} {b : Bd} (hb : b ≠ Bd.no) : ∀ {vs : List Nat}, (wipeG Γ vs)[i]? = some b → Γ[i]? = some b ∧ i ∉ vs
  | [], h => ⟨h, by simp⟩
  | v :: vs, h => by
    unfold wipeG at h
    rcases get_set h with ⟨_, q, _⟩ | ⟨ne, q⟩
    · exact absurd q hb
    · obtain ⟨h1, h2⟩ := wipeG_some hb q
      exact ⟨h1, by simp only [List.mem_cons, not_or]; exact ⟨ne, h2⟩⟩
theorem wipe_get (σ : St) (j : Nat) : ∀ vs : List Nat, (wipe σ vs)[j]? = if j ∈ vs then (if j < σ.length then some none else none) else σ[j]?
  | [] => by simp [wipe]
  | v :: vs => by
    unfold wipe
    by_cases e : v = j
    · subst e
      rw [if_pos (by simp)]
      by_cases hl : v < σ.length
      · rw [if_pos hl]; exact List.getElem?_set_self (by rw [wipe_length]; exact hl)
      · rw [if_neg hl]; exact List.getElem?_eq_none (by rw [List.length_set, wipe_length]; omega)
    · rw [List.getElem?_set_ne e, wipe_get σ j vs]
      have : (j ∈ v :: vs) ↔ j ∈ vs := by simp [List.mem_cons, Ne.symm e]
      simp only [this]
theorem wipe_idem (σ : St) (vs : List Nat) : wipe (wipe σ vs) vs = wipe σ vs := by
  refine List.ext_getElem? fun j => ?_
  rw [wipe_get, wipe_get, wipe_length]
  split <;> rfl
theorem wipe_set {σ : St} {i : Nat} {x : Option V} {vs : List Nat} (h : i ∈ vs) : wipe (σ.set i x) vs = wipe σ vs := by
  refine List.ext_getElem? fun j => ?_
  rw [wipe_get, wipe_get, List.length_set]
  split
  · rfl
  · rename_i hj
    exact List.getElem?_set_ne fun e => hj (by rw [← e]; exact h)
theorem GRel.wipe {K : PySem.W.Frag} {F : Fx} {Γ : List Bd} {σ : St} {H S : Hp} (g : GRel K F Γ σ H S) (vs : List Nat) : GRel K F (wipeG Γ vs) (wipe σ vs) H S := by
  have at' : ∀ {i : Nat}, i ∉ vs → (L2.wipe σ vs)[i]? = σ[i]? := fun {i} h => by rw [wipe_get, if_neg h]
  refine g.re (fun i d h => ?_) (fun i ds h => ?_) fun i v h => ?_
  · obtain ⟨h1, h2⟩ := wipeG_some (by simp) h
    rw [at' h2]; exact g.loc i d h1
  · obtain ⟨h1, h2⟩ := wipeG_some (by simp) h
    exact ⟨h1, at' h2⟩
  · obtain ⟨h1, h2⟩ := wipeG_some (by simp) h
    rw [at' h2]; exact g.raw i v h1
/-- a list that nobody names grows -/
theorem GRel.poke {K : PySem.W.Frag} {F : Fx} {Γ : List Bd} {σ : St} {H S : Hp} {p : Addr} {o : HO} (g : GRel K F Γ σ H S) (h1 : S p = none) (h2 : F.H0 p = none) (h3 : ∀ (j : Nat) (es : List PyData), Γ[j]? = some (Bd.mu es) → σ[j]? ≠ some (some (.ref p))) : GRel K F Γ σ (upd H p o) S := by
  refine ⟨fun a u e => ?_, g.s0, g.nw, fun a u e n => ?_, fun b hb => ?_, g.loc, fun i ds hi => ?_, g.raw, g.sep⟩
  · have ne : a ≠ p := ne_of_none e h1
    rw [upd_ne ne]; exact g.ex a u e
  · have ne : a ≠ p := fun z => by rw [z, h2] at e; cases e
    rw [upd_ne ne]; exact g.keep a u e n
  · obtain ⟨q1, ⟨w, q2⟩, q3⟩ := g.bag b hb
    have ne : b ≠ p := fun z => by rw [z, h2] at q2; cases q2
    exact ⟨q1, ⟨w, q2⟩, q3.mono (Same.refl S) (upd_ne ne)⟩
  · obtain ⟨a, xs, q1, q2, q3, q4, q5⟩ := g.own i ds hi
    have ne : a ≠ p := fun z => h3 i ds hi (z ▸ q1)
    exact ⟨a, xs, q1, by rw [upd_ne ne]; exact q2, q3, q4, q5⟩
theorem Kq.poke {F : Fx} {H S H' S' : Hp} {p : Addr} {o : HO} (k : Kq F H S H' S') (hp : H p = none) : Kq F H S (upd H' p o) S' := by
  refine ⟨fun a u e n => ?_, fun a u e => ?_, k.nw⟩
  · rw [upd_ne (ne_of_none e hp)]; exact k.kp a u e n
  · rw [upd_ne (ne_of_none e hp)]; exact k.dom a u e
/-- the block's names -/
def ceOk (scope : Scope) : List Str → List Kd → Bool
  | x :: xs, .ce :: ks => decide (scope.names.lookup x = some .cell) && ceOk scope xs ks
  | _ :: xs, _ :: ks => ceOk scope xs ks
  | _, _ => true
theorem ceOk_get {scope : Scope} : ∀ {xs : List Str} {ks : List Kd} {i : Nat} {x : Str}, ceOk scope xs ks = true → xs[i]? = some x → ks[i]? = some Kd.ce → scope.names.lookup x = some .cell
  | [], _, _, _, _, h, _ => by simp at h
  | _ :: _, [], _, _, _, _, h => by simp at h
  | a :: xs, b :: ks, 0, x, h, h1, h2 => by
    simp at h1 h2
    subst h1 h2
    exact of_decide_eq_true (Bool.and_eq_true_iff.mp h).1
  | a :: xs, b :: ks, i + 1, x, h, h1, h2 => by
    refine ceOk_get (i := i) ?_ (by simpa using h1) (by simpa using h2)
    cases b with
    | ce => exact (Bool.and_eq_true_iff.mp h).2
    | no => exact h
    | rd => exact h
    | lo => exact h
def blkNm (M : Nm) (scope : Scope) (kd : List Kd) (gl : List Str) : Nm := ⟨M.N, kd, gl, relS scope M.sc⟩
def cpOk (M : Nm) (scope : Scope) (kd : List Kd) (gl : List Str) (own : List (Str × Nat)) : Bool := blkC M.N M.sc scope own && (nmOk (blkNm M scope kd gl) && ceOk scope M.N kd)
theorem good_blk {G : Gd} {M : Nm} {X : Cx} {scope : Scope} {kd : List Kd} {gl : List Str} {own : List (Str × Nat)} (h : cpOk M scope kd gl own = true) (gd : Good G M X) (s : Shared) (H : Hp) (C : Addr) (cl : List (Str × Addr)) (fp : List Addr) :
    Good G (blkNm M scope kd gl) (X.blk s H scope (compEnvC scope cl C X.env) fp) := by
  obtain ⟨_, h2⟩ := Bool.and_eq_true_iff.mp h
  obtain ⟨h3, h4⟩ := Bool.and_eq_true_iff.mp h2
  refine ⟨gd.prog, gd.w, gd.K, gd.mg, gd.base, gd.room, gd.grd, gd.calm, gd.N, ?_, h3, fun i x e1 e2 => ?_, rfl⟩
  · show relS scope X.env.scope = relS scope M.sc
    rw [gd.sc]
  · have q := ceOk_get h4 e1 e2
    show (scope.names.lookup x == some .cell) = true
    rw [q]; rfl
theorem blk_ok {G : Gd} {M : Nm} {X : Cx} {scope : Scope} {kd : List Kd} {gl : List Str} {own : List (Str × Nat)} (h : cpOk M scope kd gl own = true) (gd : Good G M X) : BlkOk X.N X.env.scope scope own := by
  rw [gd.N, gd.sc]
  exact blkOk_by (Bool.and_eq_true_iff.mp h).1
/-- a target whose names are the block's own -/
structure WV (G : Gd) (M : Nm) (F : Fx) (vs : List Nat) (tg : Expr) (d : PyData) (Γ : List Bd) (N : List Bd → Prop) : Prop where
  run : Γ.length = M.N.length → ∀ X, Good G M X → ∀ σ H S v, σ.length = M.N.length → GRel G.K F Γ σ H S → Dp G.K S v d → tWg X tg v σ H fun σ' H' => L2.wipe σ' vs = L2.wipe σ vs ∧ H' = H ∧ ∃ Γ', σ'.length = M.N.length ∧ Γ'.length = M.N.length ∧ GRel G.K F Γ' σ' H S ∧ N Γ'
structure WVs (G : Gd) (M : Nm) (F : Fx) (vs : List Nat) (tgs : List Expr) (ds : List PyData) (Γ : List Bd) (N : List Bd → Prop) : Prop where
  run : Γ.length = M.N.length → ∀ X, Good G M X → ∀ σ H S us, σ.length = M.N.length → GRel G.K F Γ σ H S → DpAll G.K S us ds → tWgs X tgs us σ H fun σ' H' => L2.wipe σ' vs = L2.wipe σ vs ∧ H' = H ∧ ∃ Γ', σ'.length = M.N.length ∧ Γ'.length = M.N.length ∧ GRel G.K F Γ' σ' H S ∧ N Γ'
section
variable {G : Gd} {M : Nm} {F : Fx} {Γ : List Bd} {D : DE} {pos p p2 p3 : Pos} {a b c e tg iter elt : Expr} {es : List Expr} {vs : List Nat} {N : List Bd → Prop}
theorem wv_name (i : Nat) {x : Str} {d : PyData} (hx : Sto M i x) (hi : i ∈ vs) (h : N (Γ.set i (Bd.im d))) : WV G M F vs (.Name x p) d Γ N :=
  ⟨fun hΓ X gd σ H S v hl g hd => tWg.of (pg_name gd.nd (gd.at hx.1) (gd.sto hx).1 (gd.sto hx).2) ⟨wipe_set hi, rfl, _, by rw [List.length_set]; exact hl, by rw [List.length_set]; exact hΓ, g.store (hΓ.trans hl.symm) hd, h⟩⟩
theorem wvs_nil (h : N Γ) : WVs G M F vs [] [] Γ N := ⟨fun hΓ X gd σ H S us hl g hd => tWgs.of pgs_nil ⟨by cases hd; rfl, rfl, rfl, Γ, hl, hΓ, g, h⟩⟩
theorem wvs_cons {d : PyData} {ds : List PyData} (h : WV G M F vs e d Γ fun Γ' => WVs G M F vs es ds Γ' N) (hs : ∀ env, (assignEach (e :: es) env).map (·.2) = assign e env :: (assignEach es env).map (·.2) := by intro _; rfl) : WVs G M F vs (e :: es) (d :: ds) Γ N := by
  refine ⟨fun hΓ X gd σ H S us hl g hd => ?_⟩
  cases hd with
  | cons h1 h2 =>
    refine tWgs.of (pgs_cons (pg_w e) (pgs_w es) (hs X.env)) ⟨_, _, rfl, (h.run hΓ X gd σ H S _ hl g h1).mono fun σ' H' ⟨w, eH, Γ', q1, q1', q2, q4⟩ => ?_⟩
    subst eH
    exact (q4.run q1' X gd σ' H' S _ q1 q2 h2).mono fun σ2 H2 ⟨w2, r⟩ => ⟨w2.trans w, r⟩
theorem wv_tup {k n : Nat} {ds : List PyData} (hl' : ds.length = n) (h : WVs G M F vs es ds Γ N) (hn : ∀ env, (assignEach es env).length = n := by intro _; rfl) (hst : ∀ env, (assignEach es env).findIdx? (·.1) = none := by intro _; rfl) : WV G M F vs (.Tuple es k p) (.tuple ds) Γ N := by
  refine ⟨fun hΓ X gd σ H S v hl g hd => tWg.of (pg_tup gd.calm (pgs_w es) (hn X.env) (hst X.env)) ?_⟩
  cases hd with
  | tup h1 h2 =>
    rw [gd.K]
    exact ⟨_, _, rfl, same_t g.ex h1, h2.len.trans hl', h.run hΓ X gd σ H S _ hl g h2⟩
/-- the comprehension's reading over data -/
theorem lc_walk {scope : Scope} {kd : List Kd} {gl : List Str} {own : List (Str × Nat)} (hcp : cpOk M scope kd gl own = true) (J : Nat → List PyData → Prop) {Qd : List PyData → Prop} {tt : TT} {T : List Bd → (Bool → Prop) → Prop} {ds : List PyData} {X : Cx} (gd : Good G M X)
    (htm : ∀ σ H (Q Q' : Bool → Hp → Prop), tt σ H Q → (∀ b H', Q b H' → Q' b H') → tt σ H Q') (hT : ∀ Γ2 Qb, T Γ2 Qb → ∀ σ2 H2 S2, σ2.length = M.N.length → GRel G.K F Γ2 σ2 H2 S2 → tt σ2 H2 (PostT G.K F Γ2 σ2 H2 S2 Qb))
    (j0 : J 0 []) (jt : ∀ (i : Nat) (d : PyData) (acc : List PyData), ds[i]? = some d → J i acc → acc.length ≤ i → WV G (blkNm M scope kd gl) F (own.map (·.2)) tg d (wipeG Γ (own.map (·.2))) fun Γ2 => T Γ2 fun x => (x = true → WE G (blkNm M scope kd gl) F elt Γ2 fun y => J (i + 1) (acc ++ [y])) ∧ (x = false → J (i + 1) acc))
    (jd : ∀ acc, J ds.length acc → acc.length ≤ ds.length → Qd acc) {σ : St} {H1 S1 : Hp} {It : L2.It} (hΓ : Γ.length = M.N.length) (hl : σ.length = M.N.length) (g1 : GRel G.K F Γ σ H1 S1) (io : IterOk G.K It ds S1) (hz : ds.length ≤ lim) (Dd : Addr) (hD : H1 Dd = none) :
    ∃ W : Nat → Nat → Hp → Prop, (∃ m, W 0 m (upd H1 Dd (.lst []))) ∧ ∀ i m H, W i m H → (It.stop i H ∧ PostF G.K F Γ σ H1 S1 Qd (.ref Dd) H) ∨ (It.go i H ∧ ∃ Nx : Hp → Prop, (∀ H', Nx H' → ∃ m', m' < m ∧ W (i + 1) m' H') ∧
      ∀ x H', It.yld i H x H' → (fun v σ H Q => ∀ s H0 C cl fp, tWg (X.blk s H0 scope (compEnvC scope cl C X.env) fp) tg v σ H Q) x (L2.wipe σ (own.map (·.2))) H' fun σ2 H2 => L2.wipe σ2 (own.map (·.2)) = L2.wipe σ (own.map (·.2)) ∧ tt σ2 H2 fun b H3 =>
        if b = true then (fun σ H Q => ∀ s H0 C cl fp, tW (X.blk s H0 scope (compEnvC scope cl C X.env) fp) elt σ H Q) σ2 H3 fun y H4 => ∃ acc, H4 Dd = some (.lst acc) ∧ acc.length < sizeLine ∧ Nx (upd H4 Dd (.lst (acc ++ [y]))) else Nx H3) := by
  have gb := fun s H C cl fp => good_blk hcp gd s H C cl fp
  have nmu : ∀ (j : Nat) (es : List PyData), Γ[j]? = some (Bd.mu es) → σ[j]? ≠ some (some (.ref Dd)) := fun j es hj z => by
    obtain ⟨a, ys, h1, h2, _⟩ := g1.own j es hj
    rw [z] at h1
    cases h1
    rw [hD] at h2; cases h2
  have nb : F.bag ≠ some Dd := g1.nb hD
  have h00 : F.H0 Dd = none := g1.h0 hD
  have s1D : S1 Dd = none := g1.sNone hD
  let St' : Nat → Hp → Prop := fun i H => ∃ S' xs acc, GRel G.K F Γ σ H S' ∧ Same S1 S' ∧ Kq F H1 S1 H S' ∧ H Dd = some (.lst xs) ∧ S' Dd = none ∧ DpAll G.K S' xs acc ∧ acc.length ≤ i ∧ J i acc
  refine ⟨fun i m H => m = ds.length - i ∧ i ≤ ds.length ∧ St' i H, ⟨ds.length, rfl, Nat.zero_le _, S1, [], [], g1.more _ hD, Same.refl S1, Kq.more hD, upd_same, s1D, .nil, Nat.le_refl 0, j0⟩, ?_⟩
  rintro i m H ⟨rfl, hi, S', xs, acc, g, e, k, hx, hS, da, la, ja⟩
  by_cases hlt : i < ds.length
  · obtain ⟨go, yl⟩ := io.go i ds[i] H S' e g.ex (List.getElem?_eq_getElem hlt)
    refine .inr ⟨go, St' (i + 1), fun H' w => ⟨ds.length - (i + 1), by omega, rfl, by omega, w⟩, fun x H' y => ?_⟩
    -- a further state of the same list
    have fwd : ∀ {H2 S2 : Hp}, Same S' S2 → Kq F H S' H2 S2 → Same S2 H2 → (∀ b, F.bag = some b → S2 b = none ∧ BagIn G.K S2 H2 b) → GRel G.K F Γ σ H2 S2 ∧ Same S1 S2 ∧ Kq F H1 S1 H2 S2 ∧ H2 Dd = some (.lst xs) ∧ S2 Dd = none ∧ DpAll G.K S2 xs acc := fun {H2 S2} e2 k2 x2 b2 => by
      refine ⟨g.ext k2.kp e2 x2 (fun a o q => ?_) b2, e.trans e2, k.trans k2, k2.kp _ _ hx nb, ?_, dpa_mono e2 da⟩
      · exact k2.nw a o q
      · cases q : S2 Dd with
        | none => rfl
        | some u =>
          rcases k2.nw Dd u q with ⟨u', z⟩ | z
          · rw [hS] at z; cases z
          · rw [hx] at z; cases z
    obtain ⟨S3, g3, e3, k3, d3⟩ := g.yield (yl x H' y)
    intro s H0 C cl fp
    have gw : GRel G.K F (wipeG Γ (own.map (·.2))) (L2.wipe σ (own.map (·.2))) H' S3 := g3.wipe _
    refine ((jt i ds[i] acc (List.getElem?_eq_getElem hlt) ja la).run (by rw [wipeG_len]; exact hΓ) _ (gb s H0 C cl fp) _ H' S3 x (by rw [wipe_length]; exact hl) gw d3).mono fun σ2 H2 ⟨w1, eH, Γ2, q1, q1', q2, q3⟩ => ⟨w1.trans (wipe_idem _ _), ?_⟩
    subst eH
    refine htm _ _ _ _ (hT Γ2 _ q3 σ2 H2 S3 q1 q2) fun bb H3 ⟨S4, g4, e4, k4, r1, r2⟩ => ?_
    cases bb with
    | false =>
      rw [if_neg Bool.false_ne_true]
      obtain ⟨z1, z2, z3, z4, z5, z6⟩ := fwd (e3.trans e4) (k3.trans k4) g4.ex fun b hb => ⟨(g4.bag b hb).1, (g4.bag b hb).2.2⟩
      exact ⟨S4, xs, acc, z1, z2, z3, z4, z5, z6, by omega, r2 rfl⟩
    | true =>
      rw [if_pos rfl]
      intro s H0 C cl fp
      refine ((r1 rfl).run _ (gb s H0 C cl fp) σ2 H3 S4 q1 g4).mono fun y H4 ⟨S5, d5, g5, e5, k5, dy, j5⟩ => ?_
      obtain ⟨z1, z2, z3, z4, z5, z6⟩ := fwd (e3.trans (e4.trans e5)) (k3.trans (k4.trans k5)) g5.ex fun b hb => ⟨(g5.bag b hb).1, (g5.bag b hb).2.2⟩
      refine ⟨xs, z4, ?_, S5, xs ++ [y], acc ++ [d5], z1.poke z5 h00 nmu, z2, z3.poke hD, upd_same, z5, z6.app (.one dy), ?_, j5⟩
      · have := z6.len
        have hs : lim = sizeLine := rfl
        omega
      · rw [List.length_append, List.length_singleton]; omega
  · have ei : i = ds.length := by omega
    subst ei
    exact .inl ⟨io.stop ds.length H S' e g.ex (Nat.le_refl _), S', Dd, xs, acc, rfl, hD, hx, hS, h00, nmu, g, e, k, da, jd acc ja la⟩
/-- a comprehension, as a value or stored -/
structure WC (G : Gd) (M : Nm) (F : Fx) (elt tg iter : Expr) (ifs : List Expr) (scope : Scope) (Γ : List Bd) (Qd : List PyData → Prop) : Prop where
  hs : ∀ env x, foldedSetIterable iter env x = pure x
  run : ∀ X, Good G M X → ∃ wi g tt te own, PI X tg iter wi ∧ BlkOk X.N X.env.scope scope own ∧ (∀ s H C cl fp, PG (X.blk s H scope (compEnvC scope cl C X.env) fp) tg g) ∧ (∀ s H C cl fp, PTs (X.blk s H scope (compEnvC scope cl C X.env) fp) ifs tt) ∧
    (∀ s H C cl fp, PE (X.blk s H scope (compEnvC scope cl C X.env) fp) elt te) ∧ ∀ σ H S, σ.length = M.N.length → GRel G.K F Γ σ H S → ∀ Q' : VK, (∀ v H', PostF G.K F Γ σ H S Qd v H' → Q' v H') → tLc wi g tt te (own.map (·.2)) σ H Q'
/-- the walked thing has come: an iterator's reading in hand -/
def iHand (X : Cx) (tg iter : Expr) (P : L2.St → Hp → L2.It → Hp → Prop) : TI := fun σ H R => tWi X tg iter σ H fun J H1 => P σ H J H1 ∧ R J H1
theorem wc_for {scope : Scope} (kd : List Kd) (gl : List Str) (own : List (Str × Nat)) (hcp : cpOk M scope kd gl own = true) (J : List PyData → Nat → List PyData → Prop) {Qd : List PyData → Prop}
    (h : WI G M F tg iter Γ fun ds => J ds 0 [] ∧ (∀ (i : Nat) (d : PyData) (acc : List PyData), ds[i]? = some d → J ds i acc → acc.length ≤ i → WV G (blkNm M scope kd gl) F (own.map (·.2)) tg d (wipeG Γ (own.map (·.2))) fun Γ2 => WE G (blkNm M scope kd gl) F elt Γ2 fun y => J ds (i + 1) (acc ++ [y])) ∧
      ∀ acc, J ds ds.length acc → acc.length ≤ ds.length → Qd acc) (hΓ : Γ.length = M.N.length := by rfl) (hs : ∀ env x, foldedSetIterable iter env x = pure x := by intro _ _; rfl) : WC G M F elt tg iter [] scope Γ Qd := by
  refine ⟨hs, fun X gd => ⟨tWi X tg iter, fun v σ H Q => ∀ s H0 C cl fp, tWg (X.blk s H0 scope (compEnvC scope cl C X.env) fp) tg v σ H Q, tYes, fun σ H Q => ∀ s H0 C cl fp, tW (X.blk s H0 scope (compEnvC scope cl C X.env) fp) elt σ H Q, own, pi_w tg iter, blk_ok hcp gd,
    fun s H C cl fp => ⟨fun pins s1 σ1 H1 v u Q I r q => q s H C cl fp pins s1 u I r⟩, fun s H C cl fp => pts_nil, fun s H C cl fp => ⟨fun pins s1 σ1 H1 Q I q => q s H C cl fp pins s1 I⟩, fun σ H S hl g Q' kq => ?_⟩⟩
  refine fun pins s I => thn (h.run X gd σ H S hl g pins s I) fun v s1 h1 => thn h1 fun itv s2 ⟨it, fp, tn, It, H1, e0, I2, T, st2, f2, S1, ds, g1, e1, k1, io, hz, j0, jt, jd⟩ => ?_
  refine ⟨it, fp, tn, It, H1, e0, I2, T, st2, f2, fun Dd hD => ?_⟩
  obtain ⟨W, w0, w1⟩ := lc_walk (T := fun Γ2 Qb => Qb true) hcp (J ds) gd (tt := tYes) (fun σ H Q Q' q k => k _ _ q) (fun Γ2 Qb q σ2 H2 S2 hl2 g2 => ⟨S2, g2, Same.refl S2, Kq.refl H2 S2, q⟩) j0
    (fun i d acc hd ja la => by
      refine ⟨fun hΓ X gd σ H S v hl g hv => ((jt i d acc hd ja la).run hΓ X gd σ H S v hl g hv).mono fun σ' H' ⟨w1, w2, Γ', w3, w4, w5, w6⟩ => ⟨w1, w2, Γ', w3, w4, w5, ?_⟩⟩
      exact ⟨fun _ => w6, fun z => nomatch z⟩) jd hΓ hl g1 io hz Dd hD
  refine ⟨W, w0, fun i m H w => ?_⟩
  rcases w1 i m H w with ⟨q1, q2⟩ | q
  · exact .inl ⟨q1, kq _ _ (q2.ahead e1 k1)⟩
  · exact .inr q
theorem wc_if {scope : Scope} (kd : List Kd) (gl : List Str) (own : List (Str × Nat)) (hcp : cpOk M scope kd gl own = true) (J : List PyData → Nat → List PyData → Prop) {Qd : List PyData → Prop}
    (h : WI G M F tg iter Γ fun ds => J ds 0 [] ∧ (∀ (i : Nat) (d : PyData) (acc : List PyData), ds[i]? = some d → J ds i acc → acc.length ≤ i → WV G (blkNm M scope kd gl) F (own.map (·.2)) tg d (wipeG Γ (own.map (·.2))) fun Γ2 => WT G (blkNm M scope kd gl) F c Γ2 fun x => (x = true → WE G (blkNm M scope kd gl) F elt Γ2 fun y => J ds (i + 1) (acc ++ [y])) ∧ (x = false → J ds (i + 1) acc)) ∧
      ∀ acc, J ds ds.length acc → acc.length ≤ ds.length → Qd acc) (hΓ : Γ.length = M.N.length := by rfl) (hs : ∀ env x, foldedSetIterable iter env x = pure x := by intro _ _; rfl) : WC G M F elt tg iter [c] scope Γ Qd := by
  refine ⟨hs, fun X gd => ⟨tWi X tg iter, fun v σ H Q => ∀ s H0 C cl fp, tWg (X.blk s H0 scope (compEnvC scope cl C X.env) fp) tg v σ H Q, fun σ H Q => ∀ s H0 C cl fp, tWt (X.blk s H0 scope (compEnvC scope cl C X.env) fp) c σ H Q, fun σ H Q => ∀ s H0 C cl fp, tW (X.blk s H0 scope (compEnvC scope cl C X.env) fp) elt σ H Q, own, pi_w tg iter, blk_ok hcp gd,
    fun s H C cl fp => ⟨fun pins s1 σ1 H1 v u Q I r q => q s H C cl fp pins s1 u I r⟩, fun s H C cl fp => pts_one ⟨fun pins s1 σ1 H1 Q I q => q s H C cl fp pins s1 I⟩, fun s H C cl fp => ⟨fun pins s1 σ1 H1 Q I q => q s H C cl fp pins s1 I⟩, fun σ H S hl g Q' kq => ?_⟩⟩
  refine fun pins s I => thn (h.run X gd σ H S hl g pins s I) fun v s1 h1 => thn h1 fun itv s2 ⟨it, fp, tn, It, H1, e0, I2, T, st2, f2, S1, ds, g1, e1, k1, io, hz, j0, jt, jd⟩ => ?_
  refine ⟨it, fp, tn, It, H1, e0, I2, T, st2, f2, fun Dd hD => ?_⟩
  obtain ⟨W, w0, w1⟩ := lc_walk (T := fun Γ2 Qb => WT G (blkNm M scope kd gl) F c Γ2 Qb) hcp (J ds) gd (tt := fun σ H Q => ∀ s H0 C cl fp, tWt (X.blk s H0 scope (compEnvC scope cl C X.env) fp) c σ H Q) (fun σ H Q Q' q k s H0 C cl fp => (q s H0 C cl fp).mono k)
    (fun Γ2 Qb q σ2 H2 S2 hl2 g2 s H0 C cl fp => q.run _ (good_blk hcp gd s H0 C cl fp) σ2 H2 S2 hl2 g2) j0 jt jd hΓ hl g1 io hz Dd hD
  refine ⟨W, w0, fun i m H w => ?_⟩
  rcases w1 i m H w with ⟨q1, q2⟩ | q
  · exact .inl ⟨q1, kq _ _ (q2.ahead e1 k1)⟩
  · exact .inr q
variable {ifs : List Expr} {scope : Scope} {Qd : List PyData → Prop}
/-- as a value -/
theorem wf_lc (h : WC G M F elt tg iter ifs scope Γ Qd) : WF G M F (.ListComp elt [⟨tg, iter, ifs, 0⟩] scope pos) Γ Qd := by
  refine ⟨fun X gd σ H S hl g => ?_⟩
  obtain ⟨wi, gg, tt, te, own, h1, h2, h3, h4, h5, h6⟩ := h.run X gd
  exact tW.of (pe_lc gd.calm gd.nd h1 h2 h3 h4 h5 (h.hs X.env)) (h6 σ H S hl g _ fun _ _ q => q)
/-- x = [..] on one line, x a plain local: an own list -/
theorem w1_lcOwn (i : Nat) {y : Str} {py : Pos} (hy : Lcl M i y) (h : WC G M F elt tg iter ifs scope Γ fun ds => D.nx (Γ.set i (Bd.mu ds))) (hl : (py.line == p.line) = true := by rfl) (ha : (scope.names.any fun (n, k) => n == y && (k == .local || k == .cell)) = false := by decide +kernel) :
    W1 G M F (.Assign [.Name y py] (.ListComp elt [⟨tg, iter, ifs, 0⟩] scope p) pos) Γ D := by
  refine ⟨fun hΓ X gd σ H S hls g pins s I => ?_⟩
  obtain ⟨wi, gg, tt, te, own, h1, h2, h3, h4, h5, h6⟩ := h.run X gd
  refine (tWs.of (ps_setLc gd.calm gd.nd (gd.at hy.1) (gd.lcl hy) (sw_true I.ok.kind (gd.lcl hy) hl ha) h1 h2 h3 h4 h5 (h.hs X.env)) ?_) pins s I
  refine h6 σ H S hls g _ fun v H1 ⟨S1, p, xs, ds, e0, _, r1, r2, r3, r5, g1, e1, _, hd, q⟩ => ?_
  subst e0
  exact ⟨_, S1, by rw [List.length_set]; exact hls, by rw [List.length_set]; exact hΓ, g1.storeMu (hΓ.trans hls.symm) r1 r2 r3 hd r5, e1, q⟩
/-- .. that stays -/
theorem w1_lc (i : Nat) {y : Str} {py : Pos} (hy : Lcl M i y) (h : WC G M F elt tg iter ifs scope Γ fun ds => D.nx (Γ.set i (Bd.im (.list ds)))) (hl : (py.line == p.line) = true := by rfl) (ha : (scope.names.any fun (n, k) => n == y && (k == .local || k == .cell)) = false := by decide +kernel) :
    W1 G M F (.Assign [.Name y py] (.ListComp elt [⟨tg, iter, ifs, 0⟩] scope p) pos) Γ D := by
  refine ⟨fun hΓ X gd σ H S hls g pins s I => ?_⟩
  obtain ⟨wi, gg, tt, te, own, h1, h2, h3, h4, h5, h6⟩ := h.run X gd
  refine (tWs.of (ps_setLc gd.calm gd.nd (gd.at hy.1) (gd.lcl hy) (sw_true I.ok.kind (gd.lcl hy) hl ha) h1 h2 h3 h4 h5 (h.hs X.env)) ?_) pins s I
  refine h6 σ H S hls g _ fun v H1 pf => ?_
  obtain ⟨S1, d, g1, e1, _, hd, q⟩ := pf.stay (Q := fun d => D.nx (Γ.set i (Bd.im d)))
  exact ⟨_, S1, by rw [List.length_set]; exact hls, by rw [List.length_set]; exact hΓ, g1.store (hΓ.trans hls.symm) hd, e1, q⟩
theorem swaps_cell {env : Env} {y : Str} {py : Pos} {l : Nat} {gs : List Comprehension} (hy : env.scope.names.lookup y = some .cell) : swapsWith (.ListComp elt gs scope p) (some (.Name y py)) l env = pure false := by
  have ky : env.kindOf y = some .cell := hy
  unfold swapsWith
  simp only [ky]
  have : (some NameKind.cell == some NameKind.local) = false := by decide
  rw [this, Bool.and_false, Bool.false_and, Bool.false_and]
/-- x = [..], x captured -/
theorem w1_lcC (i : Nat) {y : Str} {py : Pos} (hy : M.N[i]? = some y) (hk : M.kd[i]? = some Kd.ce) (h : WC G M F elt tg iter ifs scope Γ fun ds => D.nx (Γ.set i (Bd.im (.list ds)))) :
    W1 G M F (.Assign [.Name y py] (.ListComp elt [⟨tg, iter, ifs, 0⟩] scope p) pos) Γ D := by
  refine ⟨fun hΓ X gd σ H S hl g => ?_⟩
  have hx : Sto M i y := ⟨hy, .inr hk⟩
  refine tWs.of (ps_set gd.nd (gd.at hx.1) (gd.sto hx).1 (pe_w _) (swaps_cell (of_decide_eq_true (gd.kd hy hk))) (gd.sto hx).2) ?_
  refine ((we_fresh (Q := fun d => D.nx (Γ.set i (Bd.im d))) (wf_lc h)).run X gd σ H S hl g).mono fun v H1 ⟨S1, d, g1, e1, _, hd, q⟩ => ⟨_, S1, by rw [List.length_set]; exact hl, by rw [List.length_set]; exact hΓ, g1.store (hΓ.trans hl.symm) hd, e1, q⟩
theorem w1_lcOwnC (i : Nat) {y : Str} {py : Pos} (hy : M.N[i]? = some y) (hk : M.kd[i]? = some Kd.ce) (h : WC G M F elt tg iter ifs scope Γ fun ds => D.nx (Γ.set i (Bd.mu ds))) :
    W1 G M F (.Assign [.Name y py] (.ListComp elt [⟨tg, iter, ifs, 0⟩] scope p) pos) Γ D := by
  refine ⟨fun hΓ X gd σ H S hl g => ?_⟩
  have hx : Sto M i y := ⟨hy, .inr hk⟩
  refine tWs.of (ps_set gd.nd (gd.at hx.1) (gd.sto hx).1 (pe_w _) (swaps_cell (of_decide_eq_true (gd.kd hy hk))) (gd.sto hx).2) ?_
  refine ((wf_lc h).run X gd σ H S hl g).mono fun v H1 ⟨S1, p, xs, ds, e0, _, r1, r2, r3, r5, g1, e1, _, hd, q⟩ => ?_
  subst e0
  exact ⟨_, S1, by rw [List.length_set]; exact hl, by rw [List.length_set]; exact hΓ, g1.storeMu (hΓ.trans hl.symm) r1 r2 r3 hd r5, e1, q⟩
end
end DW

namespace DW
open PySem PySem.Spec L2
open PyProof.Rows hiding St

/-! ### defs -/
/-- a def of the text, as it stands behind the top -/
structure Df (G : Gd) (x : Str) (st : Stmt) (ps : List Str) : Prop where
  ex : ∃ f fd, G.mg x = some (.ref f) ∧ L2.Fun G.K x x st f fd ∧ Binds G.K fd ps []
def initG (ds : List PyData) (n : Nat) : List Bd := ds.map Bd.im ++ List.replicate (n - ds.length) Bd.no
def initB (b : Addr) (ds : List PyData) (n : Nat) : List Bd := Bd.rw (.ref b) :: (ds.map Bd.im ++ List.replicate (n - (ds.length + 1)) Bd.no)
theorem good_def {G : Gd} {M : Nm} {qual : Str} {sc : Scope} {f : Addr} {cdv : Value} {A : Around} {outer : List Env} {s : Shared} {H : Hp} {E : XK} (hM : nmOk M = true) (hsc : M.sc = sc) (hr : Room G.k (A.deeper (envOfC qual sc s.heap.objs.size f cdv))) (hg : G.grd = true → A.guards = some []) :
    Good G M (cxOf CX0 G.P G.w G.K G.mg G.base M.N qual sc f cdv A outer s H E).nox := by
  refine ⟨rfl, rfl, rfl, rfl, rfl, hr, fun z => hg z, rfl, rfl, hsc.symm, hM, fun _ _ _ _ => rfl, rfl⟩
theorem rep_get {α : Type} {n i : Nat} {x y : α} (h : (List.replicate n x)[i]? = some y) : y = x := by
  rw [List.getElem?_replicate] at h
  split at h
  · exact (Option.some.inj h).symm
  · cases h
theorem grel_start {K : PySem.W.Frag} {H S : Hp} {vs : List V} {ds : List PyData} {N : List Str} (ex : Same S H) (hd : DpAll K S vs ds) : GRel K ⟨H, S, none⟩ (initG ds N.length) (L2.start N vs) H S := by
  have at' : ∀ {i : Nat} {b : Bd}, b ≠ Bd.no → (initG ds N.length)[i]? = some b → ∃ d, ds[i]? = some d ∧ b = Bd.im d := fun {i b} hb h => by
    unfold initG at h
    by_cases hi : i < ds.length
    · rw [List.getElem?_append_left (by simpa using hi), List.getElem?_map, List.getElem?_eq_getElem hi] at h
      exact ⟨_, List.getElem?_eq_getElem hi, (Option.some.inj h).symm⟩
    · rw [List.getElem?_append_right (by simpa using hi)] at h
      exact absurd (rep_get h) hb
  refine ⟨ex, Same.refl S, fun a o e => .inl ⟨o, e⟩, Kp.refl H, fun b hb => (by cases hb), fun i d h => ?_, fun i es h => ?_, fun i v h => ?_, fun i j a es fs h => ?_⟩
  · obtain ⟨d', h1, h2⟩ := at' (by simp) h
    cases h2
    obtain ⟨v, h3, h4⟩ := hd.get h1
    refine ⟨v, ?_, h4⟩
    have hi : i < vs.length := (List.getElem?_eq_some_iff.mp h3).1
    unfold L2.start
    rw [List.getElem?_append_left (by simpa using hi), List.getElem?_map, h3]
    rfl
  · obtain ⟨d', _, h2⟩ := at' (by simp) h; cases h2
  · obtain ⟨d', _, h2⟩ := at' (by simp) h; cases h2
  · obtain ⟨d', _, h2⟩ := at' (by simp) h; cases h2
theorem grel_bag {K : PySem.W.Frag} {H S : Hp} {b : Addr} {vs : List V} {ds : List PyData} {N : List Str} (ex : Same S H) (hb : S b = none) (bi : BagIn K S H b) (hd : DpAll K S vs ds) : GRel K ⟨H, S, some b⟩ (initB b ds N.length) (L2.start N (.ref b :: vs)) H S := by
  have at' : ∀ {i : Nat} {x : Bd}, x ≠ Bd.no → (initB b ds N.length)[i]? = some x → (i = 0 ∧ x = Bd.rw (.ref b)) ∨ ∃ j d, i = j + 1 ∧ ds[j]? = some d ∧ x = Bd.im d := fun {i x} hx h => by
    unfold initB at h
    cases i with
    | zero => exact .inl ⟨rfl, (Option.some.inj h).symm⟩
    | succ i =>
      rw [List.getElem?_cons_succ] at h
      by_cases hi : i < ds.length
      · rw [List.getElem?_append_left (by simpa using hi), List.getElem?_map, List.getElem?_eq_getElem hi] at h
        exact .inr ⟨i, _, rfl, List.getElem?_eq_getElem hi, (Option.some.inj h).symm⟩
      · rw [List.getElem?_append_right (by simpa using hi)] at h
        exact absurd (rep_get h) hx
  have bo : ∃ o, H b = some o := by obtain ⟨c, i, j, k, ns, e, _⟩ := bi; exact ⟨_, e⟩
  refine ⟨ex, Same.refl S, fun a o e => .inl ⟨o, e⟩, Kp.refl H, fun b' hb' => ?_, fun i d h => ?_, fun i es h => ?_, fun i v h => ?_, fun i j a es fs h => ?_⟩
  · cases hb'
    exact ⟨hb, bo, bi⟩
  · rcases at' (by simp) h with ⟨_, h2⟩ | ⟨j, d', rfl, h1, h2⟩
    · cases h2
    cases h2
    obtain ⟨v, h3, h4⟩ := hd.get h1
    refine ⟨v, ?_, h4⟩
    have hi : j < vs.length := (List.getElem?_eq_some_iff.mp h3).1
    unfold L2.start
    rw [List.map_cons, List.cons_append, List.getElem?_cons_succ, List.getElem?_append_left (by simpa using hi), List.getElem?_map, h3]
    rfl
  · rcases at' (by simp) h with ⟨_, h2⟩ | ⟨_, _, _, _, h2⟩ <;> cases h2
  · rcases at' (by simp) h with ⟨rfl, h2⟩ | ⟨_, _, _, _, h2⟩
    · cases h2; rfl
    · cases h2
  · rcases at' (by simp) h with ⟨_, h2⟩ | ⟨_, _, _, _, h2⟩ <;> cases h2
theorem back_of {K : PySem.W.Frag} {H S H' S' : Hp} {bag : Option Addr} {Q : VK} {v : V} {d : PyData} (g : GRel K ⟨H, S, bag⟩ [] [] H' S') (dp : Dp K S' v d) (k : Back K H S bag Q d) : Q v H' :=
  k v H' S' (fun a o e n => g.keep a o e n) g.s0 g.ex (fun a o e => g.nw a o e) (fun b hb => ⟨(g.bag b hb).1, (g.bag b hb).2.2⟩) dp
theorem start_len {N : List Str} {vs : List V} (h : vs.length ≤ N.length) : (L2.start N vs).length = N.length := by
  unfold L2.start
  rw [List.length_append, List.length_map, List.length_replicate]; omega
/-- a def of data -/
theorem fn_pure {G : Gd} {M : Nm} {x : Str} {st : Stmt} {ps : List Str} {sp : DS} (df : Df G x st ps) (hg : G.grd = false) (S : FnScope M.N ps (defScope st)) (hM : nmOk M = true) (hsc : M.sc = defScope st)
    (body : ∀ F : Fx, F.bag = none → ∀ ds Q0, ds.length = ps.length → sp ds Q0 → WS G M F (defBody st) (initG ds M.N.length) ⟨fun _ => Q0 .none, Q0, fun _ => False, fun _ => False⟩) : Fn G (G.k + 1) x ps (spD G.K ps.length sp) := by
  obtain ⟨f, fd, h1, h2, h3⟩ := df.ex
  refine ⟨f, fd, h1, h2.kp, h3, h2.ok S (fun vs H Q E h => ?_) fun cdv A outer s H vs Q E hr h => ?_⟩
  · obtain ⟨ds, _, _, e, _, hd, _⟩ := h
    exact hd.len.trans e
  · obtain ⟨ds, S0, Q0, e, ex, hd, hs, k⟩ := h
    have hpl : ps.length ≤ M.N.length := by have := congrArg List.length S.pre; rw [List.length_take] at this; omega
    have gl : (initG ds M.N.length).length = M.N.length := by
      unfold initG
      rw [List.length_append, List.length_map, List.length_replicate]; omega
    have sl : (L2.start M.N vs).length = M.N.length := start_len (by rw [hd.len]; omega)
    refine ⟨_, pss_w _, ((body ⟨H, S0, none⟩ rfl ds Q0 e hs).run gl _ (good_def hM hsc hr fun z => by rw [hg] at z; cases z) _ H S0 sl (grel_start ex hd)).mono ?_ ?_ ?_ ?_⟩
    · rintro σ' H' ⟨Γ', S', _, _, g, _, q⟩
      exact back_of g.nil .non (k _ q)
    · rintro v H' ⟨S', d, g, _, dp, q⟩
      exact back_of g dp (k _ q)
    · rintro σ' H' ⟨_, _, _, _, _, _, q⟩; exact q.elim
    · rintro σ' H' ⟨_, _, _, _, _, _, q⟩; exact q.elim
/-- a def of the bag and data -/
theorem fn_bag {G : Gd} {M : Nm} {x : Str} {st : Stmt} {ps : List Str} {sp : DS} (df : Df G x st ps) (hg : G.grd = false) (S : FnScope M.N ps (defScope st)) (hM : nmOk M = true) (hsc : M.sc = defScope st)
    (body : ∀ F b, F.bag = some b → ∀ ds Q0, ds.length + 1 = ps.length → sp ds Q0 → WS G M F (defBody st) (initB b ds M.N.length) ⟨fun _ => Q0 .none, Q0, fun _ => False, fun _ => False⟩) : Fn G (G.k + 1) x ps (spB G.K ps.length sp) := by
  obtain ⟨f, fd, h1, h2, h3⟩ := df.ex
  refine ⟨f, fd, h1, h2.kp, h3, h2.ok S (fun vs H Q E h => ?_) fun cdv A outer s H vs Q E hr h => ?_⟩
  · obtain ⟨b, us, ds, _, _, rfl, e, _, _, _, hd, _⟩ := h
    rw [List.length_cons, hd.len]; exact e
  · obtain ⟨b, us, ds, S0, Q0, rfl, e, ex, b1, b2, hd, hs, k⟩ := h
    have hpl : ps.length ≤ M.N.length := by have := congrArg List.length S.pre; rw [List.length_take] at this; omega
    have gl : (initB b ds M.N.length).length = M.N.length := by
      unfold initB
      rw [List.length_cons, List.length_append, List.length_map, List.length_replicate]; omega
    have sl : (L2.start M.N (.ref b :: us)).length = M.N.length := start_len (by rw [List.length_cons, hd.len]; omega)
    refine ⟨_, pss_w _, ((body ⟨H, S0, some b⟩ b rfl ds Q0 e hs).run gl _ (good_def hM hsc hr fun z => by rw [hg] at z; cases z) _ H S0 sl (grel_bag ex b1 b2 hd)).mono ?_ ?_ ?_ ?_⟩
    · rintro σ' H' ⟨Γ', S', _, _, g, _, q⟩
      exact back_of g.nil .non (k _ q)
    · rintro v H' ⟨S', d, g, _, dp, q⟩
      exact back_of g dp (k _ q)
    · rintro σ' H' ⟨_, _, _, _, _, _, q⟩; exact q.elim
    · rintro σ' H' ⟨_, _, _, _, _, _, q⟩; exact q.elim

/-! ### defs that are called where nothing is being shown -/
structure FnOkG (P : Program) (w : World) (K : PySem.W.Frag) (mg : Str → Option Value) (base : Heap) (k : Nat) (f : Addr) (fd : FuncData) (ps : List Str) (sp : Sp) : Prop where
  len : ∀ vs H Q E, sp vs H Q E → vs.length = ps.length
  run : ∀ (A : Around) (outer : List Env) (s : Shared) (H : Hp) (args : Args) (us : List Value) (vs : List V) (Q : VK) (E : XK), A.guards = some [] → Room k A → Env0 P w K mg base A outer s H → BindsTo s fd args (ps.zip us) → Vals vs us → sp vs H Q E →
    codeAny (model P w) A (.call (.ref f) args) (CR CX0 outer P w H s Q E) s
structure FnG (G : Gd) (k : Nat) (x : Str) (ps : List Str) (sp : Sp) : Prop where
  ex : ∃ f fd, G.mg x = some (.ref f) ∧ PySem.W.keepIn G.K (.ref f) = true ∧ Binds G.K fd ps [] ∧ FnOkG G.P G.w G.K G.mg G.base k f fd ps sp
/-- a def by its body, nothing being shown around -/
theorem okG {P : Program} {w : World} {K : PySem.W.Frag} {mg : Str → Option Value} {base : Heap} {k : Nat} {x qual : Str} {st : Stmt} {f : Addr} {fd : FuncData} {N ps : List Str} {sp : Sp} (F0 : L2.Fun K x qual st f fd) (S : FnScope N ps (defScope st)) (len : ∀ vs H Q E, sp vs H Q E → vs.length = ps.length)
    (hbody : ∀ (cdv : Value) (A : Around) (outer : List Env) (s : Shared) (H : Hp) (vs : List V) (Q : VK) (E : XK), A.guards = some [] → Room k (A.deeper (envOfC qual (defScope st) s.heap.objs.size f cdv)) → sp vs H Q E →
      ∃ t, PSs (cxOf CX0 P w K mg base N qual (defScope st) f cdv A outer s H E).nox (defBody st) t ∧ t ⟨fun _ H' => Q .non H', Q, fun _ _ => False, fun _ _ => False⟩ (L2.start N vs) H) : FnOkG P w K mg base (k + 1) f fd ps sp := by
  obtain ⟨oc, od, kV, doc, pm, an, cdv, ct, osl, rfl, lk, hcd⟩ := F0.ex
  constructor
  · exact len
  intro A outer s H args us vs Q E gd hr e0 hb r hsp
  have low : ∀ b o, base.get? b = some o → s.heap.get? b = some o := fun b o z => (e0.bs b o z).1
  have kin : K.In s.heap := e0.mod.kin.keeps low
  have nol : s.heap.NoLimit := e0.mod.nolimit.keeps low
  have par : ∀ y ∈ ps.zip us, (defScope st).names.lookup y.1 = some .local ∨ ((defScope st).names.lookup y.1 = some .cell ∧ ((cellsFrom (s.heap.objs.size + 1) (defScope st).names []).lookup y.1).isSome = true) := by
    rintro ⟨n, v⟩ hy
    rcases S.par n (List.of_mem_zip hy).1 with z | z
    · exact .inl z
    · exact .inr ⟨z, PySem.W.cellsFrom_some _ _ _ (.inl z)⟩
  refine codeAny_call_function hr.depth (kin _ _ lk) rfl S.co S.gen rfl (PySem.W.codeRec_of kin hcd) ?_
  refine hb _ _ _ _ (wpAny_newFunctionEnv_cells S.kind par ?_)
  intro env he s1 x1
  subst he
  refine ⟨nol.keeps x1.toInCall.keep, ?_⟩
  obtain ⟨t, ht, hq⟩ := hbody cdv A outer s H vs Q E gd (hr.deeper _) hsp
  have I := inv_start (CX := CX0) (E := E) S hr.hd e0 (len _ _ _ _ hsp) r x1
  refine codeAny_func (wpAny_mono (ht.nox.run [] s1 (L2.start N vs) H _ I hq) ?_ fun _ _ z => z)
  intro fl s' hs
  cases fl with
  | ret u =>
    obtain ⟨v, σ', H', J, rv, q⟩ := hs
    exact ⟨v, H', J.os, J.bare, J.base, J.hok, rv, q⟩
  | next =>
    obtain ⟨σ', H', J, q⟩ := hs
    exact ⟨V.non, H', J.os, J.bare, J.base, J.hok, rfl, q⟩
  | brk => obtain ⟨_, _, _, q⟩ := hs; exact q.elim
  | cont => obtain ⟨_, _, _, q⟩ := hs; exact q.elim
theorem fnG_pure {G : Gd} {M : Nm} {x : Str} {st : Stmt} {ps : List Str} {sp : DS} (df : Df G x st ps) (S : FnScope M.N ps (defScope st)) (hM : nmOk M = true) (hsc : M.sc = defScope st)
    (body : ∀ F : Fx, F.bag = none → ∀ ds Q0, ds.length = ps.length → sp ds Q0 → WS G M F (defBody st) (initG ds M.N.length) ⟨fun _ => Q0 .none, Q0, fun _ => False, fun _ => False⟩) : FnG G (G.k + 1) x ps (spD G.K ps.length sp) := by
  obtain ⟨f, fd, h1, h2, h3⟩ := df.ex
  refine ⟨f, fd, h1, h2.kp, h3, okG h2 S (fun vs H Q E h => ?_) fun cdv A outer s H vs Q E hgd hr h => ?_⟩
  · obtain ⟨ds, _, _, e, _, hd, _⟩ := h
    exact hd.len.trans e
  · obtain ⟨ds, S0, Q0, e, ex, hd, hs, k⟩ := h
    have hpl : ps.length ≤ M.N.length := by have := congrArg List.length S.pre; rw [List.length_take] at this; omega
    have gl : (initG ds M.N.length).length = M.N.length := by
      unfold initG
      rw [List.length_append, List.length_map, List.length_replicate]; omega
    have sl : (L2.start M.N vs).length = M.N.length := start_len (by rw [hd.len]; omega)
    refine ⟨_, pss_w _, ((body ⟨H, S0, none⟩ rfl ds Q0 e hs).run gl _ (good_def hM hsc hr fun _ => hgd) _ H S0 sl (grel_start ex hd)).mono ?_ ?_ ?_ ?_⟩
    · rintro σ' H' ⟨Γ', S', _, _, g, _, q⟩
      exact back_of g.nil .non (k _ q)
    · rintro v H' ⟨S', d, g, _, dp, q⟩
      exact back_of g dp (k _ q)
    · rintro σ' H' ⟨_, _, _, _, _, _, q⟩; exact q.elim
    · rintro σ' H' ⟨_, _, _, _, _, _, q⟩; exact q.elim
section
variable {G : Gd} {M : Nm} {F : Fx} {Γ : List Bd} {Q : PyData → Prop} {pos p : Pos} {e : Expr} {es : List Expr}
theorem pe_callG {X : Cx} {k : Nat} {f : Addr} {fd : FuncData} {ps : List Str} {sp : Sp} {x : Str} {t : TA} (FG : FnOkG X.prog X.w X.K X.mg X.base k f fd ps sp) (hgd : X.A.guards = some []) (hr : Room k X.A) (hg : Gl X x) (hm : X.mg x = some (.ref f)) (hk : PySem.W.keepIn X.K (.ref f) = true) (hb : Binds X.K fd ps [])
    (ha : PA X (e :: es) t) (hdb : (x == ("__debug__" : Str)) = false) (he : starEach (e :: es) X.env = (false, eval e X.env) :: starEach es X.env) (hpl : (backTo pos (starEach es X.env)).any (·.1) = false) :
    PE X (.Call (.Name x p) (e :: es) [] pos) (tCall sp [] (fun _ _ _ => False) t) := by
  constructor
  intro pins s σ H Q I h
  refine wpAny_Call_Name_kw (ld_glob I hg hm (PySem.W.callWith_K (h₀ := X.base) I.ok.mod.kin hk (thn (ha.run pos pins s σ H _ I h) ?_) he hpl) hdb)
  intro us s1 ⟨vs, H1, I1, r, q⟩
  have q : sp (vs ++ []) H1 Q _ := q
  rw [List.append_nil] at q
  have hl : (us ++ ([] : List Value)).length = ps.length := by
    rw [List.append_nil, ← r.length]
    exact FG.len _ _ _ _ q
  refine ⟨I1.kIn, wpAny_call (codeAny_mono (FG.run X.A X.stack s1 H1 ⟨us, []⟩ us vs Q _ hgd hr I1.env0 (by have := hb s1 us I1.kIn hl; rwa [List.append_nil] at this) r q) ?_)⟩
  intro r' s' hq
  cases r' with
  | error _ => exact hq.elim
  | ok fl =>
    cases fl with
    | ret _ => exact I1.after hq
    | next => exact False.elim hq
    | brk => exact False.elim hq
    | cont => exact False.elim hq
theorem we_callG {k n : Nat} {x : Str} {ps : List Str} {sp : DS} (fn : FnG G k x ps (spD G.K n sp)) (hG : G.grd = true) (hg : x ∈ M.gl) (hk : k ≤ G.k) (h : WL G M F (e :: es) Γ fun ds => ds.length = n ∧ sp ds Q)
    (hdb : (x == ("__debug__" : Str)) = false := by decide) (he : ∀ env, starEach (e :: es) env = (false, eval e env) :: starEach es env := by intro _; rfl) (hpl : ∀ env, (backTo pos (starEach es env)).any (·.1) = false := by intro _; rfl) :
    WE G M F (.Call (.Name x p) (e :: es) [] pos) Γ Q := by
  obtain ⟨f, fd, h1, h2, h3, h4⟩ := fn.ex
  refine ⟨fun X gd σ H S hl g => ?_⟩
  have h4' : FnOkG X.prog X.w X.K X.mg X.base k f fd ps (spD G.K n sp) := by rw [gd.prog, gd.w, gd.K, gd.mg, gd.base]; exact h4
  refine tW.of (pe_callG h4' (gd.grd hG) (gd.room.mono hk) (gd.gl hg) (by rw [gd.mg]; exact h1) (by rw [gd.K]; exact h2) (by rw [gd.K]; exact h3) (pa_w (e :: es)) hdb (he X.env) (hpl X.env)) ?_
  refine (h.run X gd σ H S hl g).mono fun vs H1 ⟨S1, ds, g1, e1, k1, hd, hn, q⟩ => ?_
  rw [List.append_nil]
  refine ⟨ds, S1, Q, hn, g1.ex, hd, q, fun d qd v H2 S2 kp s2 x2 nw _ dp => ?_⟩
  have g2 : GRel G.K F Γ σ H2 S2 := g1.ext (fun a o q _ => kp a o q (by simp)) s2 x2 nw fun bb hb => by
    obtain ⟨q1, ⟨o, q2⟩, c, i, j, m, ns, q3, q4, q5⟩ := g1.bag bb hb
    refine ⟨?_, BagIn.mono ⟨c, i, j, m, ns, q3, q4, q5⟩ s2 ((kp bb _ q3 (by simp)).trans q3.symm)⟩
    cases z : S2 bb with
    | none => rfl
    | some u =>
      rcases nw bb u z with ⟨u', w⟩ | w
      · rw [q1] at w; cases w
      · rw [q3] at w; cases w
  exact ⟨S2, d, g2, e1.trans s2, k1.trans ⟨fun a o q _ => kp a o q (by simp), fun a o q => ⟨o, kp a o q (by simp)⟩, nw⟩, dp, qd⟩
end
end DW

namespace DW
open PySem PySem.Spec L2
open PyProof.Rows hiding St
section
variable {G : Gd} {M : Nm} {F : Fx} {Γ : List Bd} {D : DE} {Q : PyData → Prop} {pos p p2 p3 : Pos} {a b c e : Expr} {es : List Expr} {j : Nat} {bb : Addr} {y : Str} {i : Nat}

/-! ### the bag, read and written -/
theorem GRel.bagSet {K : PySem.W.Frag} {σ : St} {H S : Hp} {xs : List V} (g : GRel K F Γ σ H S) (hF : F.bag = some bb) (h : BagIn K S (upd H bb (.lst xs)) bb) : GRel K F Γ σ (upd H bb (.lst xs)) S := by
  obtain ⟨b1, ⟨o, b2⟩, b3⟩ := g.bag bb hF
  refine ⟨fun x u z => ?_, g.s0, g.nw, fun x u z n => ?_, fun b hb => ?_, g.loc, fun i ds hi => ?_, g.raw, g.sep⟩
  · rw [upd_ne (ne_of_none z b1)]; exact g.ex x u z
  · have ne : x ≠ bb := fun w => n (by rw [w]; exact hF)
    rw [upd_ne ne]; exact g.keep x u z n
  · rw [hF] at hb
    cases hb
    exact ⟨b1, ⟨o, b2⟩, h⟩
  · obtain ⟨t, ys, q1, q2, q3, q4, q5⟩ := g.own i ds hi
    have ne : t ≠ bb := fun w => by rw [w, b2] at q4; cases q4
    exact ⟨t, ys, q1, by rw [upd_ne ne]; exact q2, q3, q4, q5⟩
/-- bag[0], bag[1], bag[2]: some int -/
theorem we_bag0 (hn : Rdb M i y) (hb : Γ[i]? = some (Bd.rw (.ref bb))) (hF : F.bag = some bb) (h : ∀ n : Int, 0 ≤ n → Q (.int n)) : WE G M F (.Subscript (.Name y p) (.Constant (.int 0) j p2) pos) Γ Q := by
  refine ⟨fun X gd σ H S hl g => tW.of (pe_ix ix_list (pe_var (gd.at hn.1) (gd.vis hn) hn.2.2.1 hn.2.2.2) pe_int (fun _ _ => rfl)) ?_⟩
  obtain ⟨_, _, t, n0, n1, n2, ns, e, _, h0, _⟩ := g.bag bb hF
  exact ⟨_, g.raw i _ hb, bb, _, 0, .int n0, rfl, rfl, SqL.of e, rfl, PostE.here g (.int _) (h n0 h0)⟩
theorem we_bag1 (hn : Rdb M i y) (hb : Γ[i]? = some (Bd.rw (.ref bb))) (hF : F.bag = some bb) (h : ∀ n : Int, 0 ≤ n → n < 2147483647 → Q (.int n)) : WE G M F (.Subscript (.Name y p) (.Constant (.int 1) j p2) pos) Γ Q := by
  refine ⟨fun X gd σ H S hl g => tW.of (pe_ix ix_list (pe_var (gd.at hn.1) (gd.vis hn) hn.2.2.1 hn.2.2.2) pe_int (fun _ _ => rfl)) ?_⟩
  obtain ⟨_, _, t, n0, n1, n2, ns, e, _, _, h0, h1, _⟩ := g.bag bb hF
  exact ⟨_, g.raw i _ hb, bb, _, 1, .int n1, rfl, rfl, SqL.of e, rfl, PostE.here g (.int _) (h n1 h0 h1)⟩
theorem we_bag2 (hn : Rdb M i y) (hb : Γ[i]? = some (Bd.rw (.ref bb))) (hF : F.bag = some bb) (h : ∀ n : Int, 0 ≤ n → Q (.int n)) : WE G M F (.Subscript (.Name y p) (.Constant (.int 2) j p2) pos) Γ Q := by
  refine ⟨fun X gd σ H S hl g => tW.of (pe_ix ix_list (pe_var (gd.at hn.1) (gd.vis hn) hn.2.2.1 hn.2.2.2) pe_int (fun _ _ => rfl)) ?_⟩
  obtain ⟨_, _, t, n0, n1, n2, ns, e, _, _, _, _, h0, _⟩ := g.bag bb hF
  exact ⟨_, g.raw i _ hb, bb, _, 2, .int n2, rfl, rfl, SqL.of e, rfl, PostE.here g (.int _) (h n2 h0)⟩
theorem we_bag3 (hn : Rdb M i y) (hb : Γ[i]? = some (Bd.rw (.ref bb))) (hF : F.bag = some bb) (h : ∀ ns : List Int, ns.length ≤ 63 → (∀ n ∈ ns, 0 ≤ n) → Q (.list (ns.map PyData.int))) : WE G M F (.Subscript (.Name y p) (.Constant (.int 3) j p2) pos) Γ Q := by
  refine ⟨fun X gd σ H S hl g => tW.of (pe_ix ix_list (pe_var (gd.at hn.1) (gd.vis hn) hn.2.2.1 hn.2.2.2) pe_int (fun _ _ => rfl)) ?_⟩
  obtain ⟨_, _, t, n0, n1, n2, ns, e, sq, _, _, _, _, h0⟩ := g.bag bb hF
  exact ⟨_, g.raw i _ hb, bb, _, 3, .ref t, rfl, rfl, SqL.of e, rfl, PostE.here g (.lst sq DpAll.ofInts) (h ns h0.1 h0.2)⟩
theorem w1_bag0 (hn : Rdb M i y) (hb : Γ[i]? = some (Bd.rw (.ref bb))) (hF : F.bag = some bb) (h : WE G M F e Γ fun d => ∃ n : Int, d = .int n ∧ 0 ≤ n ∧ D.nx Γ)
    (hs : ∀ env, swapsWithSole [.Subscript (.Name y p) (.Constant (.int 0) j p3) p2] e pos.line env = pure false := by intro _; rfl) (hw : ∀ env, swappedStores [.Subscript (.Name y p) (.Constant (.int 0) j p3) p2] e env = pure none := by intro _; rfl) :
    W1 G M F (.Assign [.Subscript (.Name y p) (.Constant (.int 0) j p3) p2] e pos) Γ D := by
  refine ⟨fun hΓ X gd σ H S hl g => tWs.of (ps_asg (pe_w e) (pg_sub (pe_var (gd.at hn.1) (gd.vis hn) hn.2.2.1 hn.2.2.2) pe_int set_list (by intro _; rfl)) (hs X.env) (hw X.env) (by rfl)) ?_⟩
  refine (h.run X gd σ H S hl g).mono fun v H1 ⟨S1, d, g1, e1, k1, hdd, n, en, h0, q⟩ => ?_
  subst en
  cases hdd
  obtain ⟨_, _, t, n0, n1, n2, ns, eb, sq, r⟩ := g1.bag bb hF
  exact ⟨_, g1.raw i _ hb, bb, _, 0, 0, rfl, rfl, eb, rfl, Γ, S1, hl, hΓ, g1.bagSet hF ⟨t, n, n1, n2, ns, upd_same, sq, h0, r.2⟩, e1, q⟩
theorem w1_bag1 (hn : Rdb M i y) (hb : Γ[i]? = some (Bd.rw (.ref bb))) (hF : F.bag = some bb) (h : WE G M F e Γ fun d => ∃ n : Int, d = .int n ∧ (0 ≤ n ∧ n < 2147483647) ∧ D.nx Γ)
    (hs : ∀ env, swapsWithSole [.Subscript (.Name y p) (.Constant (.int 1) j p3) p2] e pos.line env = pure false := by intro _; rfl) (hw : ∀ env, swappedStores [.Subscript (.Name y p) (.Constant (.int 1) j p3) p2] e env = pure none := by intro _; rfl) :
    W1 G M F (.Assign [.Subscript (.Name y p) (.Constant (.int 1) j p3) p2] e pos) Γ D := by
  refine ⟨fun hΓ X gd σ H S hl g => tWs.of (ps_asg (pe_w e) (pg_sub (pe_var (gd.at hn.1) (gd.vis hn) hn.2.2.1 hn.2.2.2) pe_int set_list (by intro _; rfl)) (hs X.env) (hw X.env) (by rfl)) ?_⟩
  refine (h.run X gd σ H S hl g).mono fun v H1 ⟨S1, d, g1, e1, k1, hdd, n, en, ⟨h0, h1⟩, q⟩ => ?_
  subst en
  cases hdd
  obtain ⟨_, _, t, n0, n1, n2, ns, eb, sq, r0, _, _, r⟩ := g1.bag bb hF
  exact ⟨_, g1.raw i _ hb, bb, _, 1, 1, rfl, rfl, eb, rfl, Γ, S1, hl, hΓ, g1.bagSet hF ⟨t, n0, n, n2, ns, upd_same, sq, r0, h0, h1, r⟩, e1, q⟩
def rGetL (K : PySem.W.Frag) : V → V → Hp → VK → Prop := fun x y H Q => ∃ p xs k v, x = .ref p ∧ y = .int k ∧ SqL K H p xs ∧ 0 ≤ k ∧ k < 2 ^ 63 ∧ xs[k.toNat]? = some v ∧ Q v H
theorem get_list {X : Cx} : PGet X (rGetL X.K) := by
  intro pins s σ H o i ov iv Q I r1 r2 h
  obtain ⟨p, xs, k, v, rfl, rfl, hq, h0, h1, hv, q⟩ := h
  cases r1
  obtain ⟨t, rfl⟩ := r2
  obtain ⟨its, r, pl, _⟩ := I.list hq
  obtain ⟨u, hu, ru⟩ := r.get hv
  exact wpAny_getItem_list pl.isList h0 h1 (by simpa using hu) ⟨v, H, I, ru, q⟩
theorem w1_bag2 {j2 : Nat} {p4 : Pos} (hn : Rdb M i y) (hb : Γ[i]? = some (Bd.rw (.ref bb))) (hF : F.bag = some bb) (h : D.nx Γ) :
    W1 G M F (.AugAssign (.Subscript (.Name y p) (.Constant (.int 2) j p3) p2) .Add (.Constant (.int 1) j2 p4) pos) Γ D := by
  refine ⟨fun hΓ X gd σ H S hl g => tWs.of (ps_augS (pe_var (gd.at hn.1) (gd.vis hn) hn.2.2.1 hn.2.2.2) pe_int get_list pe_int ip_add set_list (by intros; rfl)) ?_⟩
  obtain ⟨_, _, t, n0, n1, n2, ns, eb, sq, r0, r1, r2, r3, r⟩ := g.bag bb hF
  refine ⟨_, g.raw i _ hb, bb, _, 2, .int n2, rfl, rfl, SqL.of eb, by decide, by decide, rfl, n2, 1, rfl, rfl, bb, _, 2, 2, rfl, rfl, eb, rfl, Γ, S, hl, hΓ, g.bagSet hF ⟨t, n0, n1, n2 + 1, ns, upd_same, sq, r0, r1, r2, by omega, r⟩, Same.refl S, h⟩

/-! ### a new bag -/
/-- the def that makes the bag -/
def spNew (K : PySem.W.Frag) : Sp := fun vs H Q _ => ∃ (ns : List Int) (S : Hp), Same S H ∧ DpAll K S vs [.list (ns.map PyData.int)] ∧ ns.length ≤ 63 ∧
  ∀ b H' S', Same H H' → Same S S' → Same S' H' → (∀ a o, S' a = some o → (∃ u, S a = some u) ∨ H a = none) → H b = none → S' b = none → BagIn K S' H' b → Q (.ref b) H'
theorem fn_new {x : Str} {st : Stmt} {ps : List Str} (df : Df G x st ps) (hg : G.grd = false) (S : FnScope M.N ps (defScope st)) (hM : nmOk M = true) (hsc : M.sc = defScope st) (h1 : ps.length = 1)
    (body : ∀ F : Fx, F.bag = none → ∀ ns : List Int, ns.length ≤ 63 → ∃ es pos pos', defBody st = [.Return (some (.List es pos')) pos] ∧ WL G M F es (initG [.list (ns.map PyData.int)] M.N.length) fun ds => ∃ (i j k : Int) (ms : List Int), ds = [.int i, .int j, .int k, .list (ms.map PyData.int)] ∧ 0 ≤ i ∧ 0 ≤ j ∧ j < 2147483647 ∧ 0 ≤ k ∧ (ms.length ≤ 63 ∧ ∀ m ∈ ms, 0 ≤ m)) : Fn G (G.k + 1) x ps (spNew G.K) := by
  obtain ⟨f, fd, r1, r2, r3⟩ := df.ex
  refine ⟨f, fd, r1, r2.kp, r3, r2.ok S (fun vs H Q E h => ?_) fun cdv A outer s H vs Q E hr h => ?_⟩
  · obtain ⟨ns, S, _, hd, _⟩ := h
    rw [hd.len, h1]; rfl
  · obtain ⟨ns, S0, ex, hd, hz, k⟩ := h
    obtain ⟨es, pos, pos', eb, hw⟩ := body ⟨H, S0, none⟩ rfl ns hz
    have hpl : ps.length ≤ M.N.length := by have := congrArg List.length S.pre; rw [List.length_take] at this; omega
    have sl : (L2.start M.N vs).length = M.N.length := start_len (by rw [hd.len]; show 1 ≤ _; omega)
    have gd : Good G M (cxOf CX0 G.P G.w G.K G.mg G.base M.N x (defScope st) f cdv A outer s H E).nox := good_def hM hsc hr fun z => by rw [hg] at z; cases z
    rw [eb]
    refine ⟨_, pss_one (ps_ret (pe_lst (pa_w es))), (hw.run _ gd _ H S0 sl (grel_start ex hd)).mono fun us H1 ⟨S1, ds, g1, e1, k1, hdd, i, j, m, ms, eds, q0, q1, q2, q3, q4⟩ => ?_⟩
    subst eds
    cases hdd with
    | cons a1 a2 => cases a2 with
      | cons a2 a3 => cases a3 with
        | cons a3 a4 => cases a4 with
          | cons a4 a5 =>
            cases a5
            cases a1
            cases a2
            cases a3
            cases a4 with
            | lst s1 d1 =>
              rename_i t xs _
              rw [d1.ints] at s1
              refine ⟨by show 4 ≤ sizeLine; decide, fun p hp => ?_⟩
              have sm := same_new (o := .lst [.int i, .int j, .int m, .ref t]) hp
              exact k p _ S1 (fun x u z => sm x u (g1.keep x u z (by simp))) e1 (fun x u z => sm x u (g1.ex x u z)) (fun x u z => g1.nw x u z) (g1.h0 hp) (g1.sNone hp) ⟨t, i, j, m, ms, upd_same, s1, q0, q1, q2, q3, q4⟩
theorem GRel.back {K : PySem.W.Frag} {F' : Fx} {Γ0 Γ' : List Bd} {σ0 σ' : St} {H1 S1 H' S' : Hp} (g1 : GRel K F Γ0 σ0 H1 S1) (hF : F.bag = none) (e0 : ∀ a o, F.H0 a = some o → F'.H0 a = some o ∧ F'.bag ≠ some a) (e1 : Same F.S0 F'.S0)
    (e2 : ∀ a o, F'.S0 a = some o → (∃ u, F.S0 a = some u) ∨ F.H0 a = none) (g : GRel K F' Γ' σ' H' S') : GRel K F Γ' σ' H' S' := by
  have n0 : ∀ {a : Addr}, F'.H0 a = none → F.H0 a = none := fun {a} h => by
    cases q : F.H0 a with
    | none => rfl
    | some o => rw [(e0 a o q).1] at h; cases h
  refine ⟨g.ex, e1.trans g.s0, fun a o z => ?_, fun a o z _ => g.keep a o (e0 a o z).1 (e0 a o z).2, fun b hb => (by rw [hF] at hb; cases hb), g.loc, fun i ds hi => ?_, g.raw, g.sep⟩
  · rcases g.nw a o z with ⟨u, w⟩ | w
    · exact e2 a u w
    · exact .inr (n0 w)
  · obtain ⟨a, xs, q1, q2, q3, q4, q5⟩ := g.own i ds hi
    exact ⟨a, xs, q1, q2, q3, n0 q4, q5⟩
theorem noMu {ds : List PyData} {n : Nat} {i : Nat} {es : List PyData} (h : (initG ds n)[i]? = some (Bd.mu es)) : False := by
  unfold initG at h
  by_cases hi : i < ds.length
  · rw [List.getElem?_append_left (by simpa using hi), List.getElem?_map, List.getElem?_eq_getElem hi] at h
    cases h
  · rw [List.getElem?_append_right (by simpa using hi)] at h
    have := rep_get h
    cases this
/-- bag = f(script); .. -/
theorem ws_new {k : Nat} {x z : Str} {ps : List Str} {sts : List Stmt} (i : Nat) {px : Pos} {ns : List Int} {ds0 : List PyData} {n0 : Nat} (fn : Fn G k z ps (spNew G.K)) (hF : F.bag = none) (hg : z ∈ M.gl) (hk : k ≤ G.k) (hx : Sto M i x) (hz : ns.length ≤ 63)
    (h : WL G M F [a] (initG ds0 n0) fun ds => ds = [.list (ns.map PyData.int)])
    (rest : ∀ F' b, F'.bag = some b → WS G M F' sts ((initG ds0 n0).set i (Bd.rw (.ref b))) D) (hdb : (z == ("__debug__" : Str)) = false := by decide) (he : ∀ env, starEach [a] env = [(false, eval a env)] := by intro _; rfl)
    (hs : ∀ env, swapsWith (.Call (.Name z p) [a] [] p2) (some (.Name x px)) pos.line env = pure false := by intro _; rfl) :
    WS G M F (.Assign [.Name x px] (.Call (.Name z p) [a] [] p2) pos :: sts) (initG ds0 n0) D := by
  obtain ⟨f, fd, h1, h2, h3, h4⟩ := fn.ex
  refine ⟨fun hΓ X gd σ H S hl g => tWb.of (pss_cons (ps_set gd.nd (gd.at hx.1) (gd.sto hx).1 (pe_call (E := fun _ _ _ => False) (fn_use gd h4) (gd.room.mono hk) (gd.gl hg) (by rw [gd.mg]; exact h1) (by rw [gd.K]; exact h2) (by rw [gd.K]; exact h3) .nil pass0 (pa_w [a]) hdb (he X.env) rfl) (hs X.env) (gd.sto hx).2) (pss_w sts)) ?_⟩
  refine (h.run X gd σ H S hl g).mono fun vs H1 ⟨S1, ds, g1, e1, k1, hd, eds⟩ => ?_
  subst eds
  rw [List.append_nil]
  refine ⟨ns, S1, g1.ex, hd, hz, fun b H2 S2 kp s2 x2 nw hb sb bi => ?_⟩
  have nbF : F.H0 b = none := g1.h0 hb
  have g2 : GRel G.K F (initG ds0 n0) σ H2 S2 := g1.ext (fun t o q _ => kp t o q) s2 x2 nw fun b' hb' => by rw [hF] at hb'; cases hb'
  have bo : ∃ o, H2 b = some o := by obtain ⟨c, n0, n1, n2, ms, z, _⟩ := bi; exact ⟨_, z⟩
  have gB : GRel G.K ⟨H2, S2, some b⟩ (initG ds0 n0) σ H2 S2 := by
    refine ⟨x2, Same.refl S2, fun t o q => .inl ⟨o, q⟩, Kp.refl H2, fun b' hb' => ?_, g2.loc, fun j es q => (noMu q).elim, g2.raw, fun j m t es fs q => (noMu q).elim⟩
    cases hb'
    exact ⟨sb, bo, bi⟩
  have gl := (rest ⟨H2, S2, some b⟩ b rfl).run (by rw [List.length_set]; exact hΓ) X gd (σ.set i (some (.ref b))) H2 S2 (by rw [List.length_set]; exact hl) (gB.storeRaw (hΓ.trans hl.symm))
  have bk : ∀ {Γ' : List Bd} {σ' : St} {H' S' : Hp}, GRel G.K ⟨H2, S2, some b⟩ Γ' σ' H' S' → GRel G.K F Γ' σ' H' S' := fun {Γ' σ' H' S'} q => by
    refine GRel.back g1 hF (fun t o w => ⟨g2.keep t o w (by rw [hF]; simp), fun w' => ?_⟩) g2.s0 (fun t o w => g2.nw t o w) q
    cases w'
    rw [nbF] at w; cases w
  have e12 : Same S S2 := e1.trans s2
  show tWb X sts (ends G.K F M.N.length D S) (σ.set i (some (.ref b))) H2
  refine gl.mono ?_ ?_ ?_ ?_
  · rintro σ5 H5 ⟨Γ5, S5, w1, w1', w2, w3, w4⟩
    exact ⟨Γ5, S5, w1, w1', bk w2, e12.trans w3, w4⟩
  · rintro v H5 ⟨S5, d, w1, w2, w3, w4⟩
    exact ⟨S5, d, bk w1, e12.trans w2, w3, w4⟩
  · rintro σ5 H5 ⟨Γ5, S5, w1, w1', w2, w3, w4⟩
    exact ⟨Γ5, S5, w1, w1', bk w2, e12.trans w3, w4⟩
  · rintro σ5 H5 ⟨Γ5, S5, w1, w1', w2, w3, w4⟩
    exact ⟨Γ5, S5, w1, w1', bk w2, e12.trans w3, w4⟩
end

/-! ### the law's end -/
/-- what the law's def promises -/
def spLaw : DS := fun ds Q => ∃ ns : List Int, ds = [.list (ns.map PyData.int)] ∧ ns.length ≤ 63 ∧ Q (.bool true)
theorem law_runs {P : Program} {w : World} {K : PySem.W.Frag} {mg mb : Str → Option Value} {k : Nat} {fa a : Addr} {x : Str} {s1 : Shared} {vs : List Value} {ns : List Int}
    (KX : K.In s1.heap) (hns : s1.heap.Ns mainGlobals mg) (hb : s1.heap.Ns builtinsNs mb) (hbb : ∀ x : Str, x ≠ "__name__" → mb x = bootBuiltins x) (hlim : s1.heap.NoLimit) (hg : s1.gens = #[])
    (ha : s1.heap.get? a = some { cls := .type "list", data := .seq vs.toArray }) (hi : IntsAre vs ns) (hl : ns.length ≤ 63) (hr : Room k callerA)
    (FG : ∀ base : Heap, ∃ fd : FuncData, Binds K fd [x] [] ∧ FnOkG P w K mg base k fa fd [x] (spD K 1 spLaw)) :
    codeAny (model P w) callerA (.call (.ref fa) ⟨[.ref a], []⟩) (fun r s' => r = .ok (.ret (.bool true)) ∧ OldK s1.heap s'.heap ∧ s'.os = s1.os ∧ AllBare s'.gens) s1 := by
  have rv := vals_ints hi
  have lenV := hi.length
  have small : ns.length ≤ sizeLine := Nat.le_trans hl (by decide)
  have go : ∀ H : Hp, Only H → SqL K H a (ns.map V.int) → HOk P w H s1.heap → (∀ b, H b ≠ none → b = a ∧ K.lookup a = none) →
      codeAny (model P w) callerA (.call (.ref fa) ⟨[.ref a], []⟩) (fun r s' => r = .ok (.ret (.bool true)) ∧ OldK s1.heap s'.heap ∧ s'.os = s1.os ∧ AllBare s'.gens) s1 := by
    intro H hO hS hok hA
    have dictFree : ∀ {b : Addr} {o : Obj} {es : Array DictEntry} {ep : Nat}, s1.heap.get? b = some o → o.data = .dict es ep → H b = none := by
      intro b o es ep e d
      cases q : H b with
      | none => rfl
      | some u =>
        obtain ⟨rfl, _⟩ := hA b (by rw [q]; simp)
        rw [ha] at e
        cases e
        cases (show Data.seq vs.toArray _ = Data.dict es ep from d)
    have lift : ∀ {b : Addr} {m : Str → Option Value}, s1.heap.Ns b m → (hidT s1.heap H).Ns b m := by
      rintro b m ⟨o, es, ep, e, d, r⟩
      exact ⟨o, es, ep, hidT_get e (dictFree e d), d, r⟩
    have inK : K.In (hidT s1.heap H) := by
      intro b o e
      refine hidT_get (KX b o e) ?_
      cases q : H b with
      | none => rfl
      | some u =>
        obtain ⟨rfl, z⟩ := hA b (by rw [q]; simp)
        rw [z] at e; cases e
    have md : Mod K mg (hidT s1.heap H) := by
      refine ⟨inK, lift hns, ⟨mb, lift hb, hbb⟩, ?_⟩
      obtain ⟨mc, h1, h2⟩ := hlim
      exact ⟨mc, lift h1, h2⟩
    have e0 : Env0 P w K mg (hidT s1.heap H) callerA [] s1 H :=
      ⟨rfl, md, fun b o e => of_hidT e, Nat.le_of_eq (hidT_size _ _), trivial, fun b hb => absurd (show b ∈ ([] : List Addr) from hb) (by simp), hok, .of_eq hg⟩
    obtain ⟨fd, hbind, FG1⟩ := FG (hidT s1.heap H)
    refine codeAny_mono (FG1.run callerA [] s1 H ⟨[.ref a], []⟩ [.ref a] [.ref a] (fun v _ => v = .bl true) (fun _ _ _ => False) rfl hr e0 (hbind s1 [.ref a] KX rfl) (.cons rfl .nil) ?_) ?_
    · refine ⟨[.list (ns.map PyData.int)], H, fun d => d = .bool true, rfl, Same.refl H, .one (.lst hS DpAll.ofInts), ⟨ns, rfl, hl, rfl⟩, fun d hd v H' S' _ _ _ _ _ dp => ?_⟩
      subst hd
      cases dp
      rfl
    · intro r s' h
      cases r with
      | error e => exact h.elim
      | ok fl =>
        cases fl with
        | next => exact False.elim h
        | brk => exact False.elim h
        | cont => exact False.elim h
        | ret u =>
          obtain ⟨v, H', os, bare, un, hok', r', q⟩ := h
          have q' : v = .bl true := q
          subst q'
          obtain rfl : u = Value.bool true := r'
          refine ⟨rfl, OldK.of_keep fun b o e => ?_, os, bare⟩
          cases q : H b with
          | none => exact un.keep b o e q (by intro z; exact absurd (show b ∈ ([] : List Addr) from z) (by simp)) (by simp)
          | some u =>
            rcases hO b with z | ⟨ob, xs, z⟩
            · rw [q] at z; cases z
            · obtain ⟨e1, _⟩ := hok b _ z
              obtain ⟨e2, _⟩ := hok' b _ (un.frzs b ob _ z)
              rw [e] at e1
              cases e1
              exact e2
  cases hk : K.lookup a with
  | some o =>
    have e := KX a o hk
    rw [ha] at e
    cases e
    refine go (fun _ => none) (fun _ => .inl rfl) (.inr ⟨_, vs.toArray, _, hk, rfl, rfl, rfl, by rw [List.size_toArray, lenV]; exact small, by simpa using rv⟩) ?_ fun b z => absurd rfl z
    intro b u z
    cases (show (none : Option HO) = some u from z)
  | none =>
    let ob : Obj := { cls := .type "list", data := .seq vs.toArray }
    refine go (fun b => if b = a then some (.frz ob (.lst (ns.map V.int))) else none) (fun b => ?_) (.inl (.inr ⟨ob, if_pos rfl⟩)) (fun b u z => ?_) fun b z => ⟨?_, hk⟩
    · by_cases hb : b = a
      · exact .inr ⟨_, _, if_pos hb⟩
      · exact .inl (if_neg hb)
    · by_cases hb : b = a
      · cases (if_pos hb).symm.trans z
        subst hb
        exact ⟨ha, by rw [List.length_map]; exact small, vs, _, rv, ha⟩
      · cases (if_neg hb).symm.trans z
    · by_cases hb : b = a
      · exact hb
      · exact absurd (if_neg hb) z
/-- the goal that k_head leaves, from the law's promise -/
theorem law_end {l : PySem.W.OpenLaw} {k : Nat} {q : Program} {loose : List Str} {XP : (Str → Option Value) → Heap → Prop} {YP : World → Heap → Prop} {d : DefRec} {K : Params → PySem.W.Frag} {x : Str}
    (hn : l.most = some 63) (hdf : d.params.defaults = []) (hr : Room k callerA) (hY : ∀ (w : World) (h : Heap), YP w h → (K w.params).In h)
    (FF : ∀ (w : World) (mg : Str → Option Value) (fa : Addr) (h : Heap), (K w.params).In h → h.Ns mainGlobals mg → mg d.name = some (.ref fa) →
      ∀ base : Heap, ∃ fd : FuncData, Binds (K w.params) fd [x] [] ∧ FnOkG l.prog w (K w.params) mg base k fa fd [x] (spD (K w.params) 1 spLaw)) :
    PySem.W.WalkO q loose XP YP l.row.toRowW d [] (fun f vs => PySem.call f vs) := by
  refine Att.attach_call hn hdf ?_
  intro w s0 s1 mg mb fa o pm cd doc a vs ns G Y ho hd hcd hmg hobj hints hlen hg
  exact law_runs (hY w _ Y) G.T.g G.T.b G.T.builtins G.T.nolimit hg hobj hints hlen hr (FF w mg fa _ (hY w _ Y) G.T.g hmg)
end DW

namespace DW
open PySem PySem.Spec L2
open PyProof.Rows hiding St

/-! ### the operations at what is known -/
section
variable {Q : PyData → Prop} {Qb : Bool → Prop} {i j : Int} {x y : Str} {xs ys : List PyData} {a b c d e : PyData}
theorem d_addI (h : Q (.int (i + j))) : AddD (.int i) (.int j) Q := h
theorem d_addS (h1 : x.length + y.length ≤ lim) (h : Q (.str (x ++ y))) : AddD (.str x) (.str y) Q := ⟨h1, h⟩
theorem d_addL (h1 : xs.length + ys.length ≤ lim) (h : Q (.list (xs ++ ys))) : AddD (.list xs) (.list ys) Q := ⟨h1, h⟩
theorem d_addT (h1 : xs.length + ys.length ≤ lim) (h : Q (.tuple (xs ++ ys))) : AddD (.tuple xs) (.tuple ys) Q := ⟨h1, h⟩
theorem d_sub (h : Q (.int (i - j))) : SubD (.int i) (.int j) Q := h
theorem d_mul (h1 : MulOk i j) (h : Q (.int (i * j))) : MulD (.int i) (.int j) Q := ⟨h1, h⟩
theorem d_rep {k : Int} (h0 : xs ≠ []) (h1 : 1 ≤ k) (h2 : k ≤ 1000) (h3 : xs.length ≤ 1000) (h : Q (.tuple (List.replicate k.toNat xs).flatten)) : MulD (.tuple xs) (.int k) Q := ⟨h0, h1, h2, h3, h⟩
theorem d_fdiv (h1 : DivOk j) (h : Q (.int (i.fdiv j))) : FDivD (.int i) (.int j) Q := ⟨h1, h⟩
theorem d_mod (h1 : 0 < j) (h : Q (.int (i % j))) : ModD (.int i) (.int j) Q := ⟨h1, h⟩
theorem d_pow (h1 : 0 ≤ j ∧ j ≤ 1000000 ∧ i.natAbs < 2 ^ 64) (h : Q (.int (i ^ j.toNat))) : PowD (.int i) (.int j) Q := ⟨h1, h⟩
theorem d_neg (h : Q (.int (-i))) : NegD (.int i) Q := h
theorem d_lt (h : Qb (decide (i < j))) : LtD (.int i) (.int j) Qb := h
theorem d_le (h : Qb (decide (i ≤ j))) : LeD (.int i) (.int j) Qb := h
theorem d_eqI (h : Qb (decide (i = j))) : EqD (.int i) (.int j) Qb := h
theorem d_eqS (h : Qb (decide (x = y))) : EqD (.str x) (.str y) Qb := h
theorem d_int (h : Q (.int i)) : IntD (.int i) Q := h
theorem d_intB {k : Bool} (h : Q (.int (if k then 1 else 0))) : IntD (.bool k) Q := h
theorem d_abs (h : Q (.int (i.natAbs : Int))) : AbsD (.int i) Q := by
  have e : (if i < 0 then -i else i) = (i.natAbs : Int) := by split <;> omega
  show Q (.int (if i < 0 then -i else i))
  rw [e]; exact h
theorem d_lenL (h : Q (.int xs.length)) : LenD (.list xs) Q := h
theorem d_lenT (h : Q (.int xs.length)) : LenD (.tuple xs) Q := h
theorem d_lenS (h1 : x.length ≤ lim) (h : Q (.int x.length)) : LenD (.str x) Q := ⟨h1, h⟩
theorem d_seqL {R : List PyData → Prop} (h : R xs) : SeqD (.list xs) R := h
theorem d_seqT {R : List PyData → Prop} (h : R xs) : SeqD (.tuple xs) R := h
theorem d_zipL {R : List PyData → Prop} (h : R (zipD xs ys)) : ZipD (.list xs) (.list ys) R := h
theorem d_zipT {R : List PyData → Prop} (h : R (zipD xs ys)) : ZipD (.tuple xs) (.tuple ys) R := h
theorem d_gcd (h : Q (.int ((Nat.gcd i.natAbs j.natAbs : Nat) : Int))) : GcdD (.int i) (.int j) Q := h
theorem atI_nat' {α : Type} {l : List α} {n : Nat} {z : α} (h : l[n]? = some z) : atI l (n : Int) = some z := by
  have hn : n < l.length := (List.getElem?_eq_some_iff.mp h).1
  unfold atI ixN
  rw [if_pos (by omega), if_pos (by omega)]
  simpa using h
theorem d_ixT0 (h : Q a) : IxD (.tuple (a :: xs)) (.int 0) Q := ⟨a, atI_nat' (n := 0) rfl, h⟩
theorem d_ixT1 (h : Q b) : IxD (.tuple (a :: b :: xs)) (.int 1) Q := ⟨b, atI_nat' (n := 1) rfl, h⟩
theorem d_ixT2 (h : Q c) : IxD (.tuple (a :: b :: c :: xs)) (.int 2) Q := ⟨c, atI_nat' (n := 2) rfl, h⟩
theorem d_ixT3 (h : Q d) : IxD (.tuple (a :: b :: c :: d :: xs)) (.int 3) Q := ⟨d, atI_nat' (n := 3) rfl, h⟩
theorem d_ixL0 (h : Q a) : IxD (.list (a :: xs)) (.int 0) Q := ⟨a, atI_nat' (n := 0) rfl, h⟩
theorem d_ixL1 (h : Q b) : IxD (.list (a :: b :: xs)) (.int 1) Q := ⟨b, atI_nat' (n := 1) rfl, h⟩
theorem d_ixL2 (h : Q c) : IxD (.list (a :: b :: c :: xs)) (.int 2) Q := ⟨c, atI_nat' (n := 2) rfl, h⟩
theorem d_ixLn (n : Nat) (hi : i = (n : Int)) (h : xs[n]? = some d) (q : Q d) : IxD (.list xs) (.int i) Q := ⟨d, by rw [hi]; exact atI_nat' h, q⟩
theorem d_ixTn (n : Nat) (hi : i = (n : Int)) (h : xs[n]? = some d) (q : Q d) : IxD (.tuple xs) (.int i) Q := ⟨d, by rw [hi]; exact atI_nat' h, q⟩
theorem d_slL {lo hi : Option Int} (h : Q (.list (cutD xs lo hi))) : SlD (.list xs) lo hi Q := h
theorem d_slT {lo hi : Option Int} (h : Q (.tuple (cutD xs lo hi))) : SlD (.tuple xs) lo hi Q := h
/-! ### ways -/
variable {A B : Prop}
theorem br_dec {p : Prop} [Decidable p] (h1 : p → A) (h2 : ¬ p → B) : (decide p = true → A) ∧ (decide p = false → B) := ⟨fun h => h1 (of_decide_eq_true h), fun h => h2 (of_decide_eq_false h)⟩
theorem br_ndec {p : Prop} [Decidable p] (h1 : ¬ p → A) (h2 : p → B) : ((!decide p) = true → A) ∧ ((!decide p) = false → B) :=
  ⟨fun h => h1 (of_decide_eq_false (by simpa using h)), fun h => h2 (of_decide_eq_true (by simpa using h))⟩
theorem br_dec' {p : Prop} [Decidable p] (h1 : p → A) (h2 : ¬ p → B) : (decide p = false → B) ∧ (decide p = true → A) := ⟨fun h => h2 (of_decide_eq_false h), fun h => h1 (of_decide_eq_true h)⟩
theorem br_ndec' {p : Prop} [Decidable p] (h1 : ¬ p → A) (h2 : p → B) : ((!decide p) = false → B) ∧ ((!decide p) = true → A) :=
  ⟨fun h => h2 (of_decide_eq_true (by simpa using h)), fun h => h1 (of_decide_eq_false (by simpa using h))⟩
theorem br_tt (h : A) : (true = true → A) ∧ (true = false → B) := ⟨fun _ => h, (fun z => nomatch z)⟩
theorem br_ff (h : B) : (false = true → A) ∧ (false = false → B) := ⟨(fun z => nomatch z), fun _ => h⟩
theorem ex_b {k : Bool} {R : Bool → Prop} (h : R k) : ∃ c, PyData.bool k = .bool c ∧ R c := ⟨k, rfl, h⟩
theorem ex_two {R : PyData → PyData → Prop} (h : R a b) : ∃ d e, [a, b] = [d, e] ∧ R d e := ⟨a, b, rfl, h⟩
theorem ex_oneI {R : Int → Prop} (h : R i) : ∃ n : Int, [PyData.int i] = [.int n] ∧ R n := ⟨i, rfl, h⟩
theorem ex_twoI {R : Int → Int → Prop} (h : R i j) : ∃ n m : Int, [PyData.int i, .int j] = [.int n, .int m] ∧ R n m := ⟨i, j, rfl, h⟩
theorem ex_par {R : PyData → PyData → Prop} (h : R a b) : ∃ d d', [a, b] = [d, d'] ∧ R d d' := ⟨a, b, rfl, h⟩
theorem ex_par3 {R : PyData → PyData → PyData → Prop} (h : R a b c) : ∃ d d' d'', [a, b, c] = [d, d', d''] ∧ R d d' d'' := ⟨a, b, c, rfl, h⟩
theorem ex_lst {R : List PyData → Prop} (h : R xs) : ∃ zs, [PyData.list xs] = [.list zs] ∧ R zs := ⟨xs, rfl, h⟩
theorem ex_i {R : Int → Prop} (h : R i) : ∃ k, PyData.int i = .int k ∧ R k := ⟨i, rfl, h⟩
end

/-! ### cuts -/
theorem cutD_len (xs : List PyData) (lo hi : Option Int) : (cutD xs lo hi).length ≤ xs.length := by
  unfold cutD
  rw [List.length_take, List.length_drop]
  omega
theorem cutD_mem {xs : List PyData} {lo hi : Option Int} {x : PyData} (h : x ∈ cutD xs lo hi) : x ∈ xs := by
  unfold cutD at h
  exact List.mem_of_mem_drop (List.mem_of_mem_take h)
theorem cutD_map {α : Type} (f : α → PyData) (xs : List α) (lo hi : Option Int) : cutD (xs.map f) lo hi = ((xs.drop (HT.sIx xs.length 0 lo)).take (HT.sIx xs.length xs.length hi - HT.sIx xs.length 0 lo)).map f := by
  unfold cutD
  rw [List.length_map, List.map_take, List.map_drop]
theorem cutD_to (xs : List PyData) (k : Nat) : cutD xs none (some (k : Int)) = xs.take k := by
  unfold cutD
  rw [HT.sIx_none, HT.sIx_nat, List.drop_zero, Nat.sub_zero]
  by_cases h : k ≤ xs.length
  · rw [Nat.min_eq_left h]
  · rw [Nat.min_eq_right (by omega), List.take_length, List.take_of_length_le (by omega)]
theorem cutD_from (xs : List PyData) (k : Nat) : cutD xs (some (k : Int)) none = xs.drop k := by
  unfold cutD
  rw [HT.sIx_none, HT.sIx_nat]
  by_cases h : k ≤ xs.length
  · rw [Nat.min_eq_left h, List.take_of_length_le (by rw [List.length_drop]; omega)]
  · rw [Nat.min_eq_right (by omega), Nat.sub_self, List.take_zero, List.drop_of_length_le (by omega)]
/-! ### comprehensions of the plain kinds -/
section
variable {G : Gd} {M : Nm} {F : Fx} {Γ : List Bd} {tg iter elt c cd : Expr} {Qd : List PyData → Prop} {scope : Scope}
theorem take_succ {α : Type} {l : List α} {i : Nat} {x : α} (h : l[i]? = some x) : l.take (i + 1) = l.take i ++ [x] := by
  rw [List.take_add_one, h]; rfl
/-- [elt for tg in iter], each item's value g of it -/
theorem wc_map (kd : List Kd) (gl : List Str) (own : List (Str × Nat)) (hcp : cpOk M scope kd gl own = true) (g : PyData → PyData)
    (h : WI G M F tg iter Γ fun ds => (∀ d, d ∈ ds → WV G (blkNm M scope kd gl) F (own.map (·.2)) tg d (wipeG Γ (own.map (·.2))) fun Γ2 => WE G (blkNm M scope kd gl) F elt Γ2 fun y => y = g d) ∧ Qd (ds.map g))
    (hΓ : Γ.length = M.N.length := by rfl) (hs : ∀ env x, foldedSetIterable iter env x = pure x := by intro _ _; rfl) : WC G M F elt tg iter [] scope Γ Qd := by
  refine wc_for kd gl own hcp (fun ds i acc => acc = (ds.take i).map g) ?_ hΓ hs
  refine ⟨fun X gd σ H S hl gr pins s I => thn (h.run X gd σ H S hl gr pins s I) fun v s1 h1 => thn h1 fun itv s2 ⟨it, fp, tn, It, H1, e0, I2, T, st2, f2, S1, ds, g1, e1, k1, io, hz, h1, h2⟩ => ⟨it, fp, tn, It, H1, e0, I2, T, st2, f2, S1, ds, g1, e1, k1, io, hz, rfl, fun i d acc hd ja la => ?_, fun acc ja _ => ?_⟩⟩
  · refine ⟨fun hΓ X gd σ H S v hl g' hv => ((h1 d (List.mem_of_getElem? hd)).run hΓ X gd σ H S v hl g' hv).mono fun σ' H' ⟨w1, w2, Γ', w3, w4, w5, w6⟩ => ⟨w1, w2, Γ', w3, w4, w5, we_mono w6 fun y hy => ?_⟩⟩
    rw [hy, ja, take_succ hd, List.map_append]; rfl
  · rw [ja, List.take_length]; exact h2
/-- [elt for tg in iter if c] -/
theorem wc_fmap (kd : List Kd) (gl : List Str) (own : List (Str × Nat)) (hcp : cpOk M scope kd gl own = true) (p : PyData → Bool) (g : PyData → PyData)
    (h : WI G M F tg iter Γ fun ds => (∀ d, d ∈ ds → WV G (blkNm M scope kd gl) F (own.map (·.2)) tg d (wipeG Γ (own.map (·.2))) fun Γ2 => WT G (blkNm M scope kd gl) F c Γ2 fun x => x = p d ∧ (x = true → WE G (blkNm M scope kd gl) F elt Γ2 fun y => y = g d)) ∧ Qd ((ds.filter p).map g))
    (hΓ : Γ.length = M.N.length := by rfl) (hs : ∀ env x, foldedSetIterable iter env x = pure x := by intro _ _; rfl) : WC G M F elt tg iter [c] scope Γ Qd := by
  refine wc_if kd gl own hcp (fun ds i acc => acc = ((ds.take i).filter p).map g) ?_ hΓ hs
  refine ⟨fun X gd σ H S hl gr pins s I => thn (h.run X gd σ H S hl gr pins s I) fun v s1 h1 => thn h1 fun itv s2 ⟨it, fp, tn, It, H1, e0, I2, T, st2, f2, S1, ds, g1, e1, k1, io, hz, h1, h2⟩ => ⟨it, fp, tn, It, H1, e0, I2, T, st2, f2, S1, ds, g1, e1, k1, io, hz, rfl, fun i d acc hd ja la => ?_, fun acc ja _ => ?_⟩⟩
  · refine ⟨fun hΓ X gd σ H S v hl g' hv => ((h1 d (List.mem_of_getElem? hd)).run hΓ X gd σ H S v hl g' hv).mono fun σ' H' ⟨w1, w2, Γ', w3, w4, w5, w6⟩ => ⟨w1, w2, Γ', w3, w4, w5, wt_mono w6 fun x ⟨hx, hq⟩ => ⟨fun hxt => we_mono (hq hxt) fun y hy => ?_, fun hxf => ?_⟩⟩⟩
    · have hp : p d = true := hx.symm.trans hxt
      rw [hy, ja, take_succ hd, List.filter_append, List.map_append, List.filter_cons, if_pos hp]; rfl
    · have hp : ¬ p d = true := by rw [← hx, hxf]; exact Bool.false_ne_true
      rw [ja, take_succ hd, List.filter_append, List.map_append, List.filter_cons, if_neg hp]
      simp
  · rw [ja, List.take_length]; exact h2
/-- [elt for tg in iter], each item's value some y with P -/
theorem wc_some (kd : List Kd) (gl : List Str) (own : List (Str × Nat)) (hcp : cpOk M scope kd gl own = true) (P : PyData → PyData → Prop)
    (h : WI G M F tg iter Γ fun ds => (∀ d, d ∈ ds → WV G (blkNm M scope kd gl) F (own.map (·.2)) tg d (wipeG Γ (own.map (·.2))) fun Γ2 => WE G (blkNm M scope kd gl) F elt Γ2 fun y => P d y) ∧ ∀ ys : List PyData, ys.length = ds.length → (∀ (i : Nat) (d y : PyData), ds[i]? = some d → ys[i]? = some y → P d y) → Qd ys)
    (hΓ : Γ.length = M.N.length := by rfl) (hs : ∀ env x, foldedSetIterable iter env x = pure x := by intro _ _; rfl) : WC G M F elt tg iter [] scope Γ Qd := by
  refine wc_for kd gl own hcp (fun ds i acc => acc.length = min i ds.length ∧ ∀ (j : Nat) (d y : PyData), ds[j]? = some d → acc[j]? = some y → P d y) ?_ hΓ hs
  refine ⟨fun X gd σ H S hl gr pins s I => thn (h.run X gd σ H S hl gr pins s I) fun v s1 h1 => thn h1 fun itv s2 ⟨it, fp, tn, It, H1, e0, I2, T, st2, f2, S1, ds, g1, e1, k1, io, hz, h1, h2⟩ => ⟨it, fp, tn, It, H1, e0, I2, T, st2, f2, S1, ds, g1, e1, k1, io, hz, ⟨by simp, fun j d y _ hy => by simp at hy⟩, fun i d acc hd ja la => ?_, fun acc ja _ => ?_⟩⟩
  · refine ⟨fun hΓ X gd σ H S v hl g' hv => ((h1 d (List.mem_of_getElem? hd)).run hΓ X gd σ H S v hl g' hv).mono fun σ' H' ⟨w1, w2, Γ', w3, w4, w5, w6⟩ => ⟨w1, w2, Γ', w3, w4, w5, we_mono w6 fun y hy => ?_⟩⟩
    have hi : i < ds.length := (List.getElem?_eq_some_iff.mp hd).1
    have ea : acc.length = i := by rw [ja.1]; omega
    refine ⟨by rw [List.length_append, List.length_singleton]; omega, fun j d' y' hd' hy' => ?_⟩
    by_cases hj : j < acc.length
    · rw [List.getElem?_append_left hj] at hy'
      exact ja.2 j d' y' hd' hy'
    · have hj2 : j = acc.length := by
        have := (List.getElem?_eq_some_iff.mp hy').1
        rw [List.length_append, List.length_singleton] at this
        omega
      subst hj2
      rw [List.getElem?_append_right (Nat.le_refl _), Nat.sub_self] at hy'
      cases hy'
      rw [ea, hd] at hd'
      cases hd'
      exact hy
  · exact h2 acc (by rw [ja.1]; omega) fun j d y => ja.2 j d y
/-- [elt for tg in iter], iter's items told by a list of anything -/
theorem wc_typ {α : Type} (l : List α) (c : α → PyData) (g : α → PyData) (kd : List Kd) (gl : List Str) (own : List (Str × Nat)) (hcp : cpOk M scope kd gl own = true)
    (h : WI G M F tg iter Γ fun ds => ds = l.map c ∧ (∀ a, a ∈ l → WV G (blkNm M scope kd gl) F (own.map (·.2)) tg (c a) (wipeG Γ (own.map (·.2))) fun Γ2 => WE G (blkNm M scope kd gl) F elt Γ2 fun y => y = g a) ∧ Qd (l.map g))
    (hΓ : Γ.length = M.N.length := by rfl) (hs : ∀ env x, foldedSetIterable iter env x = pure x := by intro _ _; rfl) : WC G M F elt tg iter [] scope Γ Qd := by
  refine wc_for kd gl own hcp (fun ds i acc => acc = (l.take i).map g) ?_ hΓ hs
  refine ⟨fun X gd σ H S hl gr pins s I => thn (h.run X gd σ H S hl gr pins s I) fun v s1 h1 => thn h1 fun itv s2 ⟨it, fp, tn, It, H1, e0, I2, T, st2, f2, S1, ds, g1, e1, k1, io, hz, h0, h1, h2⟩ => ⟨it, fp, tn, It, H1, e0, I2, T, st2, f2, S1, ds, g1, e1, k1, io, hz, rfl, fun i d acc hd ja la => ?_, fun acc ja _ => ?_⟩⟩
  · subst h0
    rw [List.getElem?_map] at hd
    cases hli : l[i]? with
    | none => rw [hli] at hd; cases hd
    | some a =>
      rw [hli] at hd
      cases hd
      refine ⟨fun hΓ X gd σ H S v hl g' hv => ((h1 a (List.mem_of_getElem? hli)).run hΓ X gd σ H S v hl g' hv).mono fun σ' H' ⟨w1, w2, Γ', w3, w4, w5, w6⟩ => ⟨w1, w2, Γ', w3, w4, w5, we_mono w6 fun y hy => ?_⟩⟩
      rw [hy, ja, take_succ hli, List.map_append]; rfl
  · subst h0
    rw [ja, List.length_map, List.take_length]; exact h2
theorem wc_ftyp {α : Type} (l : List α) (c : α → PyData) (p : α → Bool) (g : α → PyData) (kd : List Kd) (gl : List Str) (own : List (Str × Nat)) (hcp : cpOk M scope kd gl own = true)
    (h : WI G M F tg iter Γ fun ds => ds = l.map c ∧ (∀ a, a ∈ l → WV G (blkNm M scope kd gl) F (own.map (·.2)) tg (c a) (wipeG Γ (own.map (·.2))) fun Γ2 => WT G (blkNm M scope kd gl) F cd Γ2 fun x => x = p a ∧ (x = true → WE G (blkNm M scope kd gl) F elt Γ2 fun y => y = g a)) ∧ Qd ((l.filter p).map g))
    (hΓ : Γ.length = M.N.length := by rfl) (hs : ∀ env x, foldedSetIterable iter env x = pure x := by intro _ _; rfl) : WC G M F elt tg iter [cd] scope Γ Qd := by
  refine wc_if kd gl own hcp (fun ds i acc => acc = ((l.take i).filter p).map g) ?_ hΓ hs
  refine ⟨fun X gd σ H S hl gr pins s I => thn (h.run X gd σ H S hl gr pins s I) fun v s1 h1 => thn h1 fun itv s2 ⟨it, fp, tn, It, H1, e0, I2, T, st2, f2, S1, ds, g1, e1, k1, io, hz, h0, h1, h2⟩ => ⟨it, fp, tn, It, H1, e0, I2, T, st2, f2, S1, ds, g1, e1, k1, io, hz, rfl, fun i d acc hd ja la => ?_, fun acc ja _ => ?_⟩⟩
  · subst h0
    rw [List.getElem?_map] at hd
    cases hli : l[i]? with
    | none => rw [hli] at hd; cases hd
    | some a =>
      rw [hli] at hd
      cases hd
      refine ⟨fun hΓ X gd σ H S v hl g' hv => ((h1 a (List.mem_of_getElem? hli)).run hΓ X gd σ H S v hl g' hv).mono fun σ' H' ⟨w1, w2, Γ', w3, w4, w5, w6⟩ => ⟨w1, w2, Γ', w3, w4, w5, wt_mono w6 fun x ⟨hx, hq⟩ => ⟨fun hxt => we_mono (hq hxt) fun y hy => ?_, fun hxf => ?_⟩⟩⟩
      · have hp : p a = true := hx.symm.trans hxt
        rw [hy, ja, take_succ hli, List.filter_append, List.map_append, List.filter_cons, if_pos hp]; rfl
      · have hp : ¬ p a = true := by rw [← hx, hxf]; exact Bool.false_ne_true
        rw [ja, take_succ hli, List.filter_append, List.map_append, List.filter_cons, if_neg hp]
        simp
  · subst h0
    rw [ja, List.length_map, List.take_length]; exact h2
theorem zipD_map {α β : Type} (f : α → PyData) (g : β → PyData) : ∀ (xs : List α) (ys : List β), zipD (xs.map f) (ys.map g) = (xs.zip ys).map fun p => .tuple [f p.1, g p.2]
  | [], _ => by simp [zipD]
  | _ :: _, [] => by simp [zipD]
  | x :: xs, y :: ys => by
    have := zipD_map f g xs ys
    simp only [List.map_cons, List.zip_cons_cons, zipD] at *
    rw [List.zipWith_cons_cons, this]
theorem rngD_map (n : Nat) : rngD 0 n = (List.range n).map fun i => .int (i : Int) := by
  unfold rngD
  simp
end
end DW

namespace DW
open PySem PySem.Spec L2
open PyProof.Rows hiding St

/-! ### FRACTIONS as rational numbers -/
/-- a FRACTION -/
def fr (q : Rat) : PyData := .tuple [.int q.num, .int q.den]
/-- an integer of at most N bits -/
def NB (N : Nat) (i : Int) : Prop := i.natAbs < 2 ^ N
def RB (N : Nat) (q : Rat) : Prop := NB N q.num ∧ NB N (q.den : Int)
theorem NB.up {N M : Nat} {i : Int} (h : NB N i) (l : N ≤ M) : NB M i := Nat.lt_of_lt_of_le h (Nat.pow_le_pow_right (by decide) l)
theorem RB.up {N M : Nat} {q : Rat} (h : RB N q) (l : N ≤ M) : RB M q := ⟨h.1.up l, h.2.up l⟩
theorem NB.mul {N M : Nat} {i j : Int} (h : NB N i) (k : NB M j) : NB (N + M) (i * j) := by
  unfold NB
  rw [Int.natAbs_mul, Nat.pow_add]
  exact Nat.mul_lt_mul'' h k
theorem NB.neg {N : Nat} {i : Int} (h : NB N i) : NB N (-i) := by
  unfold NB
  rw [Int.natAbs_neg]
  exact h
theorem NB.add {N : Nat} {i j : Int} (h : NB N i) (k : NB N j) : NB (N + 1) (i + j) := by
  unfold NB at *
  have := Int.natAbs_add_le i j
  rw [Nat.pow_succ]
  omega
theorem NB.sub {N : Nat} {i j : Int} (h : NB N i) (k : NB N j) : NB (N + 1) (i - j) := by
  rw [Int.sub_eq_add_neg]
  exact h.add k.neg
theorem NB.le {N : Nat} {i j : Int} (h : NB N i) (k : j.natAbs ≤ i.natAbs) : NB N j := Nat.lt_of_le_of_lt k h
theorem NB.mulOk {N M : Nat} {i j : Int} (h : NB N i) (k : NB M j) (h1 : N ≤ 9000) (h2 : M ≤ 9000) : MulOk i j :=
  .inr (.inr ⟨Nat.lt_of_lt_of_le h (Nat.pow_le_pow_right (by decide) (Nat.le_trans h1 (by decide))), Nat.lt_of_lt_of_le k (Nat.pow_le_pow_right (by decide) (Nat.le_trans h2 (by decide)))⟩)
theorem NB.log {N : Nat} {i : Int} (h : NB N i) (h0 : 0 < N) (h1 : N ≤ 9000) : i.natAbs.log2 < 9000 := by
  have := PySem.Flt.log2_lt_of h0 h
  omega
theorem NB.div {N : Nat} {i : Int} (h : NB N i) (h0 : 0 < N) (h1 : N ≤ 9000) (h2 : i ≠ 0) : DivOk i := ⟨h2, h.log h0 h1⟩
theorem natAbs_ediv_le (a b : Int) (hd : b ∣ a) : (a / b).natAbs ≤ a.natAbs := by
  obtain ⟨c, rfl⟩ := hd
  by_cases hb : b = 0
  · subst hb; simp
  · rw [Int.mul_ediv_cancel_left _ hb, Int.natAbs_mul]
    exact Nat.le_mul_of_pos_left _ (by omega)
theorem num_le (n d : Int) : (Rat.divInt n d).num.natAbs ≤ n.natAbs := by
  rw [Rat.num_divInt]
  refine Nat.le_trans (natAbs_ediv_le _ _ ?_) ?_
  · exact Int.dvd_mul_of_dvd_right (Int.gcd_dvd_right ..)
  · rw [Int.natAbs_mul]
    have : d.sign.natAbs ≤ 1 := by
      rw [Int.natAbs_sign]
      split <;> omega
    calc d.sign.natAbs * n.natAbs ≤ 1 * n.natAbs := Nat.mul_le_mul_right _ this
      _ = n.natAbs := Nat.one_mul _
theorem den_le (n d : Int) (h : d ≠ 0) : (Rat.divInt n d).den ≤ d.natAbs := by
  rw [Rat.den_divInt, if_neg h]
  exact Nat.div_le_self _ _
theorem RB.of {N : Nat} {n d : Int} (h : NB N n) (k : NB N d) (h0 : d ≠ 0) : RB N (Rat.divInt n d) := ⟨h.le (num_le n d), k.le (by rw [Int.natAbs_natCast]; exact den_le n d h0)⟩
theorem den_ne (q : Rat) : (q.den : Int) ≠ 0 := by have := q.den_nz; omega
theorem rat_add (p q : Rat) : p + q = Rat.divInt (p.num * q.den + q.num * p.den) (p.den * q.den) := by
  rw [← Rat.divInt_add_divInt _ _ (den_ne p) (den_ne q), Rat.num_divInt_den, Rat.num_divInt_den]
theorem rat_sub (p q : Rat) : p - q = Rat.divInt (p.num * q.den - q.num * p.den) (p.den * q.den) := by
  rw [← Rat.divInt_sub_divInt _ _ (den_ne p) (den_ne q), Rat.num_divInt_den, Rat.num_divInt_den]
theorem rat_mul (p q : Rat) : p * q = Rat.divInt (p.num * q.num) (p.den * q.den) := by
  rw [← Rat.divInt_mul_divInt, Rat.num_divInt_den, Rat.num_divInt_den]
theorem rat_div (p q : Rat) : p / q = Rat.divInt (p.num * q.den) (p.den * q.num) := by
  rw [Rat.div_def, Rat.inv_def, ← Rat.divInt_mul_divInt, Rat.num_divInt_den]
theorem rat_mulNe (p q : Rat) : (p.den : Int) * q.den ≠ 0 := Int.mul_ne_zero (den_ne p) (den_ne q)
theorem RB.add {N : Nat} {p q : Rat} (h : RB N p) (k : RB N q) : RB (N + N + 1) (p + q) := by
  rw [rat_add]
  exact .of ((h.1.mul k.2).add (k.1.mul h.2)) ((h.2.mul k.2).up (by omega)) (rat_mulNe p q)
theorem RB.sub {N : Nat} {p q : Rat} (h : RB N p) (k : RB N q) : RB (N + N + 1) (p - q) := by
  rw [rat_sub]
  exact .of ((h.1.mul k.2).sub (k.1.mul h.2)) ((h.2.mul k.2).up (by omega)) (rat_mulNe p q)
theorem RB.mul {N : Nat} {p q : Rat} (h : RB N p) (k : RB N q) : RB (N + N) (p * q) := by
  rw [rat_mul]
  exact .of (h.1.mul k.1) (h.2.mul k.2) (rat_mulNe p q)
theorem num_ne {q : Rat} (h : q ≠ 0) : q.num ≠ 0 := fun z => h (Rat.num_eq_zero.mp z)
theorem RB.div {N : Nat} {p q : Rat} (h : RB N p) (k : RB N q) (hq : q ≠ 0) : RB (N + N) (p / q) := by
  rw [rat_div]
  exact .of (h.1.mul k.2) (h.2.mul k.1) (Int.mul_ne_zero (den_ne p) (num_ne hq))
/-- what fraction(n, d) reckons -/
def sgcd (n d : Int) : Int := if d > 0 then ((Nat.gcd n.natAbs d.natAbs : Nat) : Int) else -((Nat.gcd n.natAbs d.natAbs : Nat) : Int)
theorem sgcd_ne {n d : Int} (h : d ≠ 0) : sgcd n d ≠ 0 := by
  have := Nat.gcd_pos_of_pos_right n.natAbs (show 0 < d.natAbs by omega)
  unfold sgcd
  split <;> omega
theorem sgcd_le (n d : Int) (h : d ≠ 0) : (sgcd n d).natAbs ≤ d.natAbs := by
  have := Nat.gcd_le_right n.natAbs (show 0 < d.natAbs by omega)
  unfold sgcd
  split <;> omega
theorem fdiv_of_dvd {n g : Int} (h : g ∣ n) : n.fdiv g = n / g := by
  rw [Int.fdiv_eq_ediv, if_pos (.inr h)]
  omega
theorem sgcd_num {n d : Int} (h : d ≠ 0) : n.fdiv (sgcd n d) = (Rat.divInt n d).num := by
  have hg : (Nat.gcd n.natAbs d.natAbs : Int) = Int.gcd d n := by rw [Int.gcd, Nat.gcd_comm]
  have hd : (Int.gcd d n : Int) ∣ n := Int.gcd_dvd_right ..
  rw [Rat.num_divInt]
  unfold sgcd
  rw [hg]
  split
  · rename_i hp
    rw [Int.sign_eq_one_of_pos hp, Int.one_mul, fdiv_of_dvd hd]
  · rw [Int.sign_eq_neg_one_of_neg (by omega), fdiv_of_dvd (Int.neg_dvd.mpr hd), Int.ediv_neg, ← Int.neg_one_mul, Int.mul_ediv_assoc _ hd]
theorem sgcd_den {n d : Int} (h : d ≠ 0) : d.fdiv (sgcd n d) = (Rat.divInt n d).den := by
  have hg : (Nat.gcd n.natAbs d.natAbs : Int) = Int.gcd d n := by rw [Int.gcd, Nat.gcd_comm]
  have hd : (Int.gcd d n : Int) ∣ d := Int.gcd_dvd_left ..
  rw [Rat.den_divInt, if_neg h]
  unfold sgcd
  rw [hg]
  split
  · rename_i hp
    rw [fdiv_of_dvd hd, Int.natCast_ediv]
    congr 1
    omega
  · rw [fdiv_of_dvd (Int.neg_dvd.mpr hd), Int.ediv_neg, Int.natCast_ediv, ← Int.neg_ediv_of_dvd hd]
    congr 1
    omega
theorem fr_num {n : Int} : fr (n : Rat) = .tuple [.int n, .int 1] := rfl
theorem rat_lt (p q : Rat) : decide (p.num * q.den < q.num * p.den) = decide (p < q) := decide_eq_decide.mpr (Rat.lt_iff p q).symm
theorem rat_le (p q : Rat) : decide (p.num * q.den ≤ q.num * p.den) = decide (p ≤ q) := decide_eq_decide.mpr (Rat.le_iff p q).symm
theorem RB.cast {N : Nat} {i : Int} (h : NB N i) (h0 : 0 < N) : RB N (i : Rat) := ⟨h, by show 1 < 2 ^ N; exact Nat.one_lt_two_pow (by omega)⟩
theorem sgcd_ok {n d : Int} (h : DivOk d) : DivOk (sgcd n d) := by
  refine ⟨sgcd_ne h.1, Nat.lt_of_le_of_lt ?_ h.2⟩
  have h0 := sgcd_ne (n := n) h.1
  rw [Nat.le_log2 (by have := h.1; omega)]
  exact Nat.le_trans (Nat.log2_self_le (by omega)) (sgcd_le n d h.1)
theorem lim_n (n : Nat) (h : n ≤ 1000) : n ≤ lim := Nat.le_trans h (by rw [lim_eq]; decide)
abbrev sp_fraction : DS := fun ds Q => ∃ n d : Int, ds = [.int n, .int d] ∧ DivOk d ∧ Q (fr (Rat.divInt n d))
abbrev sp_whole : DS := fun ds Q => ∃ n : Int, ds = [.int n] ∧ Q (fr n)
/-- f of two FRACTIONS -/
abbrev spR2 (c : Rat → Rat → Prop) (f : Rat → Rat → PyData) : DS := fun ds Q => ∃ p q N, ds = [fr p, fr q] ∧ N ≤ 4000 ∧ RB N p ∧ RB N q ∧ c p q ∧ Q (f p q)
abbrev spR1 (f : Rat → PyData) : DS := fun ds Q => ∃ p N, ds = [fr p] ∧ N ≤ 4000 ∧ RB N p ∧ Q (f p)
abbrev yes2 : Rat → Rat → Prop := fun _ _ => True
/-! ### VECTORS -/
def vec (ps : List Rat) : PyData := .tuple (ps.map fr)
def VB (N : Nat) (ps : List Rat) : Prop := ∀ p, p ∈ ps → RB N p
abbrev spV2 (f : Rat → Rat → Rat) : DS := fun ds Q => ∃ ps qs N, ds = [vec ps, vec qs] ∧ N ≤ 4000 ∧ VB N ps ∧ VB N qs ∧ Q (vec (List.zipWith f ps qs))
abbrev sp_multiple : DS := fun ds Q => ∃ a ps N, ds = [fr a, vec ps] ∧ N ≤ 4000 ∧ RB N a ∧ VB N ps ∧ Q (vec (ps.map fun p => a * p))
abbrev sp_vector : DS := fun ds Q => ∃ ns : List Int, (ds = [.tuple (ns.map PyData.int)] ∨ ds = [.list (ns.map PyData.int)]) ∧ Q (vec (ns.map (Int.cast : Int → Rat)))
abbrev sp_nought : DS := fun ds Q => ∃ cells rest, ds = [.tuple (.tuple cells :: rest)] ∧ cells ≠ [] ∧ cells.length ≤ 1000 ∧ Q (vec (List.replicate cells.length 0))
theorem zipWith_map {α β γ : Type} (f : α → β → γ) (xs : List α) (ys : List β) : (xs.zip ys).map (fun p => f p.1 p.2) = List.zipWith f xs ys := by
  rw [List.zip, List.map_zipWith]
theorem vec_zip (f : Rat → Rat → Rat) (ps qs : List Rat) : (ps.zip qs).map (fun p => fr (f p.1 p.2)) = (List.zipWith f ps qs).map fr := by
  rw [← zipWith_map, List.map_map]; rfl
theorem zip_mem {α β : Type} {xs : List α} {ys : List β} {p : α × β} (h : p ∈ xs.zip ys) : p.1 ∈ xs ∧ p.2 ∈ ys := List.of_mem_zip (a := p.1) (b := p.2) h
theorem sign_eq (i : Int) : ((if decide (i > 0) then 1 else 0) - (if decide (i < 0) then 1 else 0) : Int) = i.sign := by
  rcases Int.lt_trichotomy i 0 with h | h | h
  · rw [Int.sign_eq_neg_one_of_neg h]; simp [h]; omega
  · subst h; rfl
  · rw [Int.sign_eq_one_of_pos h]; simp [h]; omega
theorem floor_eq (p : Rat) : p.num.fdiv p.den = p.floor := by
  rw [Rat.floor_def, Int.fdiv_eq_ediv_of_nonneg _ (by omega)]
theorem RB.den {N : Nat} {p : Rat} (h : RB N p) (h1 : N ≤ 4000) : DivOk (p.den : Int) := by
  have h2 : RB (N + 1) p := h.up (by omega)
  exact h2.2.div (by omega) (by omega) (den_ne p)
abbrev sp_lgcd : DS := fun ds Q => ∃ a b : Int, ds = [.int a, .int b] ∧ 0 ≤ a ∧ 0 ≤ b ∧ Q (.int ((Nat.gcd a.natAbs b.natAbs : Nat) : Int))
theorem gcd_step {a b : Int} (ha : 0 ≤ a) (hb : 0 < b) : Nat.gcd b.natAbs (a % b).natAbs = Nat.gcd a.natAbs b.natAbs := by
  obtain ⟨n, rfl⟩ := Int.eq_ofNat_of_zero_le ha
  obtain ⟨m, rfl⟩ := Int.eq_ofNat_of_zero_le (Int.le_of_lt hb)
  rw [← Int.natCast_emod]
  simp only [Int.natAbs_natCast]
  rw [Nat.gcd_comm n m, Nat.gcd_rec m n, Nat.gcd_comm (n % m) m]
theorem frac_pos {n d : Int} (h : 0 < d) : n.fdiv ((Nat.gcd n.natAbs d.natAbs : Nat) : Int) = (Rat.divInt n d).num ∧ d.fdiv ((Nat.gcd n.natAbs d.natAbs : Nat) : Int) = (Rat.divInt n d).den := by
  have h1 := sgcd_num (n := n) (d := d) (by omega)
  have h2 := sgcd_den (n := n) (d := d) (by omega)
  unfold sgcd at h1 h2
  rw [if_pos h] at h1 h2
  exact ⟨h1, h2⟩
theorem floor_neg {n d : Int} (h : 0 < d) : -((-n + d - 1).fdiv d) = n / d := by
  rw [Int.fdiv_eq_ediv_of_nonneg _ (by omega)]
  have h1 := Int.mul_ediv_add_emod n d
  have h2 := Int.emod_nonneg n (b := d) (by omega)
  have h3 := Int.emod_lt_of_pos n h
  have h4 := Int.mul_ediv_add_emod (-n + d - 1) d
  have h5 := Int.emod_nonneg (-n + d - 1) (b := d) (by omega)
  have h6 := Int.emod_lt_of_pos (-n + d - 1) h
  have h7 : d * ((-n + d - 1) / d + n / d) = d - 1 - (-n + d - 1) % d - n % d := by
    rw [Int.mul_add]; omega
  have h8 : (-n + d - 1) / d + n / d = 0 := by
    rcases Int.lt_trichotomy ((-n + d - 1) / d + n / d) 0 with h | h | h
    · have := Int.mul_le_mul_of_nonneg_left (show (-n + d - 1) / d + n / d ≤ -1 by omega) (show 0 ≤ d by omega)
      omega
    · exact h
    · have := Int.mul_le_mul_of_nonneg_left (show 1 ≤ (-n + d - 1) / d + n / d by omega) (show 0 ≤ d by omega)
      omega
  omega
/-! ### what a law draws -/
abbrev sp_take : DS := fun ds Q => ∃ m : Int, ds = [.int m] ∧ 0 < m ∧ m < 1073741824 ∧ ∀ n : Int, 0 ≤ n → n < m → Q (.int n)
abbrev sp_some : DS := fun ds Q => ∃ xs : List PyData, ds = [.list xs] ∧ xs ≠ [] ∧ xs.length ≤ 1000 ∧ ∀ x, x ∈ xs → Q x
abbrev sp_mixed : DS := fun ds Q => ∃ xs : List PyData, ds = [.list xs] ∧ xs.length ≤ 1000 ∧ ∀ ys : List PyData, ys.Perm xs → Q (.list ys)
abbrev sp_number : DS := fun ds Q => ds = [] ∧ ∀ n : Int, NB 29 n → Q (.int n)
abbrev sp_drawnfr : DS := fun ds Q => ds = [] ∧ ∀ q : Rat, RB 30 q → Q (fr q)
abbrev sp_stand : DS := fun ds Q => ∃ m : Nat, ds = [.int m] ∧ m ≤ 1000 ∧ ∀ ps : List Rat, ps.length = m → VB 4 ps → Q (vec ps)
abbrev sp_reading : DS := fun ds Q => ∃ m : Nat, ds = [.int m] ∧ 1 ≤ m ∧ m ≤ 1000 ∧ ∀ ns : List Int, ns.length = m → (∀ n, n ∈ ns → NB 3 n) → Q (.tuple (ns.map PyData.int))
theorem all_fr {P : Rat → Prop} : ∀ {ys : List PyData}, (∀ y, y ∈ ys → ∃ q, P q ∧ y = fr q) → ∃ ps : List Rat, ys = ps.map fr ∧ ∀ p, p ∈ ps → P p
  | [], _ => ⟨[], rfl, fun _ h => nomatch h⟩
  | y :: ys, h => by
    obtain ⟨q, hq, rfl⟩ := h y (List.Mem.head _)
    obtain ⟨ps, rfl, hp⟩ := all_fr (ys := ys) fun z hz => h z (List.Mem.tail _ hz)
    refine ⟨q :: ps, rfl, fun p hp' => ?_⟩
    cases hp' with
    | head => exact hq
    | tail _ m => exact hp p m
theorem all_int {P : Int → Prop} : ∀ {ys : List PyData}, (∀ y, y ∈ ys → ∃ q, P q ∧ y = .int q) → ∃ ps : List Int, ys = ps.map PyData.int ∧ ∀ p, p ∈ ps → P p
  | [], _ => ⟨[], rfl, fun _ h => nomatch h⟩
  | y :: ys, h => by
    obtain ⟨q, hq, rfl⟩ := h y (List.Mem.head _)
    obtain ⟨ps, rfl, hp⟩ := all_int (ys := ys) fun z hz => h z (List.Mem.tail _ hz)
    refine ⟨q :: ps, rfl, fun p hp' => ?_⟩
    cases hp' with
    | head => exact hq
    | tail _ m => exact hp p m
theorem get_some_of_mem {α β : Type} {P : α → β → Prop} {xs : List α} {ys : List β} (hl : ys.length = xs.length) (h : ∀ (i : Nat) (d : α) (y : β), xs[i]? = some d → ys[i]? = some y → P d y) (y : β) (hy : y ∈ ys) : ∃ d, d ∈ xs ∧ P d y := by
  obtain ⟨i, hi, e⟩ := List.getElem_of_mem hy
  have hi' : i < xs.length := by omega
  exact ⟨xs[i], List.getElem_mem hi', h i _ y (List.getElem?_eq_getElem hi') (by rw [List.getElem?_eq_getElem hi, e])⟩
/-! ### FRAMES -/
def tstrs (xs : List Str) : PyData := .tuple (xs.map PyData.str)
def frD (cells : List Str) (groups : List (List Str)) (free : List Str) (way : Str) : PyData := .tuple [tstrs cells, .tuple (groups.map tstrs), tstrs free, .str way]
def lawNames : List Str := ["a", "b", "rent", "x", "y", "sum", "ab", "abcdefghijkl", "z", "p", "tax", "q"]
structure FrameOk (m : Nat) (cells : List Str) (groups : List (List Str)) (fre : List Str) (way : Str) : Prop where
  some : cells ≠ []
  most : cells.length ≤ m
  nodup : cells.Nodup
  known : ∀ c, c ∈ cells → c ∈ lawNames
  frees : fre.Sublist cells
  parts : groups.flatten.Perm (cells.filter fun c => !decide (c ∈ fre))
  each : ∀ g, g ∈ groups → g ≠ [] ∧ g.Sublist cells
  order : (groups.map fun g => g.headD "").Sublist cells
  ways : way = "usual" ∨ way = "strict"
abbrev sp_frame : DS := fun ds Q => ∃ m : Nat, ds = [.int m] ∧ 1 ≤ m ∧ m ≤ 12 ∧ ∀ (cells : List PyData) (groups fre way : PyData), cells ≠ [] → cells.length ≤ m → Q (.tuple [.tuple cells, groups, fre, way])
end DW

namespace DW
open PySem PySem.Spec L2
open PyProof.Rows hiding St
/-! ### data that is compared and shown -/
structure TmD (k n : Nat) (d : PyData) : Prop where
  lay : d.canLay0 = true
  show_ : d.showable = true
  deep : d.depth ≤ k
  len : d.shown.length ≤ n
theorem TmD.up {k n k' n' : Nat} {d : PyData} (h : TmD k n d) (hk : k ≤ k') (hn : n ≤ n') : TmD k' n' d := ⟨h.lay, h.show_, Nat.le_trans h.deep hk, Nat.le_trans h.len hn⟩
theorem str_app (a b : Str) : (a ++ b).length = a.length + b.length := by
  show (a.cps ++ b.cps).size = a.cps.size + b.cps.size
  exact Array.size_append
theorem tm_bool (b : Bool) : TmD 0 5 (.bool b) := by
  refine ⟨by simp [PyData.canLay0], by simp [PyData.showable], by simp [PyData.depth], ?_⟩
  cases b <;> decide +kernel
theorem tm_none : TmD 0 4 .none := by
  refine ⟨by simp [PyData.canLay0], by simp [PyData.showable], by simp [PyData.depth], ?_⟩
  decide +kernel
theorem tm_int {N : Nat} {i : Int} (h : NB N i) (h0 : 0 < N) (h1 : N ≤ 1900) : TmD 0 (N + 1) (.int i) := by
  have hl := PySem.Flt.log2_lt_of h0 h
  refine ⟨?_, ?_, by simp [PyData.depth], ?_⟩
  · simp [PyData.canLay0]
  · simp only [PyData.showable]; exact decide_eq_true (by omega)
  · simp only [PyData.shown]
    have e := int_text_length_le h0 hl
    have : (Str.ofString (toString i)).length = (toString i).length := PySem.ofString_length _
    show (Str.ofString (toString i)).length ≤ N + 1
    omega
theorem from_len (n : Nat) : ∀ (ts : List Str) (k : Nat) (acc : Str), (∀ t ∈ ts, t.length ≤ n) → (textFrom k acc ts).length ≤ acc.length + (n + 2) * ts.length
  | [], k, acc, _ => by show acc.length ≤ _; omega
  | t :: r, k, acc, h => by
    have ih := from_len n r (k + 1) (acc ++ (if k > 0 then ", " else "" : String) ++ t) fun z hz => h z (List.Mem.tail _ hz)
    have h1 := h t (List.Mem.head _)
    show (textFrom (k + 1) (acc ++ (if k > 0 then ", " else "" : String) ++ t) r).length ≤ _
    rw [str_app, str_app] at ih
    have h2 : (((if k > 0 then ", " else "" : String)) : Str).length ≤ 2 := by split <;> decide +kernel
    rw [List.length_cons, Nat.mul_add]
    omega
theorem piled_len (n : Nat) : ∀ ts : List Str, (∀ t ∈ ts, t.length ≤ n) → piled ts ≤ (n + 2) * ts.length
  | [], _ => by simp [piled]
  | t :: r, h => by
    have ih := piled_len n r fun z hz => h z (List.Mem.tail _ hz)
    have h1 := h t (List.Mem.head _)
    rw [piled_cons, List.length_cons, Nat.mul_add]
    omega
theorem shownAll_map (xs : List PyData) : PyData.shownAll xs = xs.map PyData.shown := by
  induction xs with
  | nil => simp [PyData.shownAll]
  | cons a r ih => simp [PyData.shownAll, ih]
theorem all_tm {k n : Nat} : ∀ {xs : List PyData}, (∀ d, d ∈ xs → TmD k n d) → PyData.canLayAll0 xs = true ∧ PyData.showableAll xs = true ∧ PyData.depthAll xs ≤ k
  | [], _ => ⟨by simp [PyData.canLayAll0], by simp [PyData.showableAll], by simp [PyData.depthAll]⟩
  | x :: xs, h => by
    have h1 := h x (List.Mem.head _)
    obtain ⟨i1, i2, i3⟩ := all_tm (xs := xs) fun d hd => h d (List.Mem.tail _ hd)
    have := h1.deep
    exact ⟨by simp [PyData.canLayAll0, h1.lay, i1], by simp [PyData.showableAll, h1.show_, i2], by simp only [PyData.depthAll]; omega⟩
theorem tm_list {k n L : Nat} {xs : List PyData} (h : ∀ d, d ∈ xs → TmD k n d) (hl : xs.length ≤ L) : TmD (k + 1) ((n + 2) * L + 3) (.list xs) := by
  obtain ⟨i1, i2, i3⟩ := all_tm h
  refine ⟨by simp only [PyData.canLay0]; exact i1, by simp only [PyData.showable]; exact i2, by simp only [PyData.depth]; omega, ?_⟩
  simp only [PyData.shown, listText, shownAll_map]
  have h1 := from_len n (xs.map PyData.shown) 0 "[" fun t ht => by
    obtain ⟨d, hd, rfl⟩ := List.mem_map.mp ht
    exact (h d hd).len
  rw [str_app]
  rw [List.length_map] at h1
  have h2 : (n + 2) * xs.length ≤ (n + 2) * L := Nat.mul_le_mul_left _ hl
  have h3 : (("[" : Str)).length = 1 := by decide +kernel
  have h4 : (("]" : Str)).length = 1 := by decide +kernel
  omega
theorem tm_tuple {k n L : Nat} {xs : List PyData} (h : ∀ d, d ∈ xs → TmD k n d) (hl : xs.length ≤ L) : TmD (k + 1) ((n + 2) * L + 3) (.tuple xs) := by
  obtain ⟨i1, i2, i3⟩ := all_tm h
  refine ⟨by simp only [PyData.canLay0]; exact i1, by simp only [PyData.showable]; exact i2, by simp only [PyData.depth]; omega, ?_⟩
  simp only [PyData.shown, tupleText, shownAll_map]
  have hm : ∀ t ∈ xs.map PyData.shown, t.length ≤ n := fun t ht => by
    obtain ⟨d, hd, rfl⟩ := List.mem_map.mp ht
    exact (h d hd).len
  have h1 := piled_len n _ hm
  have h5 : (Str.join ", " (xs.map PyData.shown)).length ≤ (n + 2) * xs.length := by
    rw [List.length_map] at h1
    by_cases e : xs.map PyData.shown = []
    · rw [e]
      have : (Str.join ", " []).length = 0 := by decide +kernel
      omega
    · have := join_length_add _ e
      omega
  rw [str_app, str_app]
  have h2 : (n + 2) * xs.length ≤ (n + 2) * L := Nat.mul_le_mul_left _ hl
  have h3 : (("(" : Str)).length = 1 := by decide +kernel
  have h4 : (((if (xs.map PyData.shown).length == 1 then ",)" else ")" : String)) : Str).length ≤ 2 := by split <;> decide +kernel
  omega
mutual
theorem eqv_same : ∀ d : PyData, d.hasDict = false → PyData.eqv d d = true
  | .none, _ => by simp [PyData.eqv]
  | .bool _, _ => by simp [PyData.eqv]
  | .int _, _ => by simp [PyData.eqv]
  | .str _, _ => by simp [PyData.eqv]
  | .list xs, h => by simp only [PyData.eqv]; exact eqvAll_same xs (by simpa [PyData.hasDict] using h)
  | .tuple xs, h => by simp only [PyData.eqv]; exact eqvAll_same xs (by simpa [PyData.hasDict] using h)
  | .dict _, h => by simp [PyData.hasDict] at h
theorem eqvAll_same : ∀ xs : List PyData, PyData.hasDictAll xs = false → PyData.eqvAll xs xs = true
  | [], _ => by simp [PyData.eqvAll]
  | x :: xs, h => by
    simp only [PyData.hasDictAll, Bool.or_eq_false_iff] at h
    simp [PyData.eqvAll, eqv_same x h.1, eqvAll_same xs h.2]
end
/-- told and due alike -/
abbrev sp_alike : DS := fun ds Q => ∃ xs k n, ds = [.list xs, .list xs] ∧ TmD k n (.list xs) ∧ k ≤ 60 ∧ n ≤ lim ∧ Q (.bool true)
theorem tm_fr {N : Nat} {q : Rat} (h : RB N q) (h0 : 0 < N) (h1 : N ≤ 1900) : TmD 1 ((N + 3) * 2 + 3) (fr q) := by
  refine (tm_tuple (k := 0) (n := N + 1) (L := 2) (xs := [.int q.num, .int q.den]) (fun d hd => ?_) (Nat.le_refl 2)).up (by omega) (by omega)
  simp only [List.mem_cons, List.not_mem_nil, or_false] at hd
  rcases hd with rfl | rfl
  · exact tm_int h.1 h0 h1
  · exact tm_int h.2 h0 h1
theorem tm_vec {N L : Nat} {ps : List Rat} (h : VB N ps) (hl : ps.length ≤ L) (h0 : 0 < N) (h1 : N ≤ 1900) : TmD 2 (((N + 3) * 2 + 3 + 2) * L + 3) (vec ps) := by
  refine tm_tuple (k := 1) (n := (N + 3) * 2 + 3) (L := L) (fun d hd => ?_) (by rw [List.length_map]; exact hl)
  obtain ⟨p, hp, rfl⟩ := List.mem_map.mp hd
  exact tm_fr (h p hp) h0 h1
theorem TmD.shaped {k n : Nat} {d : PyData} (h : TmD k n d) (hk : k ≤ 60) : SeqAt.shaped d = true := by
  unfold SeqAt.shaped
  rw [h.lay, Bool.true_and]
  exact decide_eq_true (Nat.le_trans h.deep (by omega))
theorem d_eqSame {xs : List PyData} {k n : Nat} {Q : Bool → Prop} (h : TmD k n (.list xs)) (hk : k ≤ 60) (q : Q true) : EqD (.list xs) (.list xs) Q := by
  have e : PyData.eqv (.list xs) (.list xs) = true := eqv_same _ (PyData.hasDict_of_canLay _ h.lay)
  exact ⟨h.shaped hk, h.shaped hk, by rw [e]; exact q⟩
theorem d_repr {d : PyData} {k n : Nat} {Q : PyData → Prop} (h : TmD k n d) (hk : k ≤ 60) (hn : n ≤ lim) (q : Q (.str d.shown)) : ReprD d Q := ⟨h.show_, Nat.le_trans h.deep hk, Nat.le_trans h.len hn, q⟩
theorem lim_lt (n : Nat) (h : n < 1000) : n < lim := Nat.lt_of_lt_of_le h (lim_n 1000 (by decide))
section
variable {G : Gd} {M : Nm} {F : Fx} {Γ : List Bd} {D : DE} {st : Stmt} {sts : List Stmt}
theorem w1_cut (N : List Bd → Prop) (h1 : W1 G M F st Γ { D with nx := N }) (h2 : ∀ Γ', N Γ' → D.nx Γ') : W1 G M F st Γ D := by
  refine ⟨fun hΓ X gd σ H S hl g => (h1.run hΓ X gd σ H S hl g).mono ?_ (fun _ _ z => z) (fun _ _ z => z) (fun _ _ z => z)⟩
  rintro σ' H' ⟨Γ', S', w1, w2, w3, w4, w5⟩
  exact ⟨Γ', S', w1, w2, w3, w4, h2 Γ' w5⟩
theorem ws_cut {Γ0 : List Bd} (N : List Bd → Prop) (h1 : N Γ0) (h2 : ∀ Γ', N Γ' → WS G M F sts Γ' D) : WS G M F sts Γ0 D := h2 _ h1
theorem use2 {N : Nat} {p q : Rat} {f : Rat → Rat → PyData} {Q : PyData → Prop} (hN : N ≤ 4000) (hp : RB N p) (hq : RB N q) (h : Q (f p q)) : [fr p, fr q].length = 2 ∧ spR2 yes2 f [fr p, fr q] Q := ⟨rfl, p, q, N, rfl, hN, hp, hq, trivial, h⟩
theorem use1 {N : Nat} {p : Rat} {f : Rat → PyData} {Q : PyData → Prop} (hN : N ≤ 4000) (hp : RB N p) (h : Q (f p)) : [fr p].length = 1 ∧ spR1 f [fr p] Q := ⟨rfl, p, N, rfl, hN, hp, h⟩
end
theorem w1_at {G : Gd} {M : Nm} {F : Fx} {Γ0 : List Bd} {D : DE} {st : Stmt} (N : List Bd → Prop) (h1 : N Γ0) (h2 : ∀ Γ', N Γ' → W1 G M F st Γ' D) : W1 G M F st Γ0 D := h2 _ h1
theorem ediv_abs (n : Int) {d : Int} (hd : 0 < d) : (n / d).natAbs ≤ n.natAbs := by
  by_cases h : 0 ≤ n
  · have h1 := Int.ediv_nonneg h (by omega : 0 ≤ d)
    have h2 := Int.ediv_le_self d h
    omega
  · have h1 : n ≤ n / d := by
      rw [Int.le_ediv_iff_mul_le hd]
      have := Int.mul_le_mul_of_nonpos_left (show n ≤ 0 by omega) (show 1 ≤ d by omega)
      omega
    have h2 : n / d < 0 := Int.ediv_neg_of_neg_of_pos (by omega) hd
    omega
theorem RB.floor {N : Nat} {p : Rat} (h : RB N p) : NB N p.floor := by
  rw [Rat.floor_def]
  exact h.1.le (ediv_abs _ (by have := p.den_nz; omega))
theorem NB.sign {N : Nat} (i : Int) (h0 : 0 < N) : NB N i.sign := by
  have : i.sign.natAbs ≤ 1 := by rw [Int.natAbs_sign]; split <;> omega
  exact Nat.lt_of_le_of_lt this (Nat.one_lt_two_pow (by omega))
theorem floor_divInt (a : Int) {b : Int} (hb : 0 < b) : (Rat.divInt a b).floor = a / b := by
  rw [Rat.floor_def, Rat.num_divInt, Rat.den_divInt, if_neg (by omega), Int.sign_eq_one_of_pos hb, Int.one_mul, Int.natCast_ediv, Int.natAbs_of_nonneg (by omega)]
  have hg : 0 < (b.gcd a : Int) := by
    have := Nat.gcd_pos_of_pos_left a.natAbs (show 0 < b.natAbs by omega)
    show (0 : Int) < ((b.natAbs.gcd a.natAbs : Nat) : Int)
    omega
  obtain ⟨x, hx⟩ := Int.gcd_dvd_right b a
  obtain ⟨y, hy⟩ := Int.gcd_dvd_left b a
  generalize (b.gcd a : Int) = g at *
  subst hx
  subst hy
  rw [Int.mul_ediv_cancel_left _ (by omega), Int.mul_ediv_cancel_left _ (by omega), Int.mul_ediv_mul_of_pos _ _ hg]
/-- n divided by n + 1 -/
def nx (n : Nat) : Rat := ⟨n, n + 1, by omega, by
  show Nat.gcd n (n + 1) = 1
  rw [Nat.gcd_self_add_right]
  exact Nat.gcd_one_right n⟩
theorem fr_nx (n : Nat) : fr (nx n) = .tuple [.int n, .int (n + 1)] := rfl
theorem nx_rb {n : Nat} (h : n < 2 ^ 30 - 2) : RB 30 (nx n) := by
  constructor
  · show Int.natAbs (n : Int) < 2 ^ 30
    omega
  · show Int.natAbs ((n + 1 : Nat) : Int) < 2 ^ 30
    omega
theorem nx_lt (n : Nat) : nx n < nx (n + 1) := by
  rw [Rat.lt_iff]
  show (n : Int) * ((n + 1 + 1 : Nat) : Int) < ((n + 1 : Nat) : Int) * ((n + 1 : Nat) : Int)
  have : n * (n + 1 + 1) < (n + 1) * (n + 1) := by
    rw [Nat.mul_add n, Nat.add_mul n 1 (n + 1)]
    omega
  exact_mod_cast this
theorem nx_ne {n : Nat} (h : 0 < n) : nx n ≠ 0 := fun e => by
  have := congrArg Rat.num e
  have : (n : Int) = 0 := this
  omega
theorem sign_neg {p : Rat} (h : p < 0) : p.num.sign = -1 := by
  have : ¬ 0 ≤ p.num := fun z => by rw [Rat.num_nonneg] at z; exact Rat.not_lt.mpr z h
  exact Int.sign_eq_neg_one_of_neg (by omega)
theorem sign_pos {p : Rat} (h : 0 < p) : p.num.sign = 1 := by
  have h1 : 0 ≤ p.num := Rat.num_nonneg.mpr (Rat.le_of_lt h)
  have h2 : p.num ≠ 0 := fun z => by rw [Rat.num_eq_zero] at z; subst z; exact absurd h Rat.lt_irrefl
  exact Int.sign_eq_one_of_pos (by omega)
theorem nx_floor1 {n : Nat} (h : 0 < n) : (nx n / nx (n + 1)).floor = 0 := by
  rw [rat_div]
  show (Rat.divInt ((n : Int) * ((n + 1 + 1 : Nat) : Int)) (((n + 1 : Nat) : Int) * ((n + 1 : Nat) : Int))).floor = 0
  have h1 : n * (n + 1 + 1) < (n + 1) * (n + 1) := by
    rw [Nat.mul_add n, Nat.add_mul n 1 (n + 1)]; omega
  rw [floor_divInt _ (by exact_mod_cast Nat.mul_pos (Nat.succ_pos n) (Nat.succ_pos n))]
  exact Int.ediv_eq_zero_of_lt (by exact_mod_cast Nat.zero_le _) (by exact_mod_cast h1)
theorem nx_floor2 {n : Nat} (h : 2 < n) : (nx (n + 1) / nx n).floor = 1 := by
  rw [rat_div]
  show (Rat.divInt (((n + 1 : Nat) : Int) * ((n + 1 : Nat) : Int)) (((n + 1 + 1 : Nat) : Int) * (n : Int))).floor = 1
  have h1 : (n + 1) * (n + 1) = (n + 1 + 1) * n + 1 := by
    rw [Nat.add_mul (n + 1) 1 n, Nat.mul_add (n + 1) n 1]; omega
  have h2 : 1 < (n + 1 + 1) * n := by
    have := Nat.mul_le_mul (show 2 ≤ n + 1 + 1 by omega) (show 1 ≤ n by omega)
    omega
  rw [floor_divInt _ (by exact_mod_cast (show 0 < (n + 1 + 1) * n by omega))]
  have h3 : (((n + 1 : Nat) : Int) * ((n + 1 : Nat) : Int)) = (((n + 1 + 1 : Nat) : Int) * (n : Int)) + 1 := by exact_mod_cast h1
  have h4 : (1 : Int) < (((n + 1 + 1 : Nat) : Int) * (n : Int)) := by exact_mod_cast h2
  generalize (((n + 1 + 1 : Nat) : Int) * (n : Int)) = x at *
  rw [h3, Int.add_ediv_of_dvd_left (Int.dvd_refl x), Int.ediv_self (by omega), Int.ediv_eq_zero_of_lt (by decide) h4]
  rfl
/-- lists of told things -/
def TL (L : Nat) (T : List PyData) : Prop := T.length ≤ L ∧ ∀ d, d ∈ T → TmD 3 3000 d
theorem TL.nil : TL 0 [] := ⟨Nat.le_refl 0, fun _ h => nomatch h⟩
theorem TL.cons {L : Nat} {T : List PyData} {d : PyData} (h : TmD 3 3000 d) (t : TL L T) : TL (L + 1) (d :: T) := by
  refine ⟨by rw [List.length_cons]; have := t.1; omega, fun e he => ?_⟩
  cases he with
  | head => exact h
  | tail _ m => exact t.2 e m
theorem TL.app {L L' : Nat} {T T' : List PyData} (h : TL L T) (t : TL L' T') : TL (L + L') (T ++ T') := by
  refine ⟨by rw [List.length_append]; have := t.1; have := h.1; omega, fun e he => ?_⟩
  rcases List.mem_append.mp he with m | m
  · exact h.2 e m
  · exact t.2 e m
theorem TL.up {L L' : Nat} {T : List PyData} (h : TL L T) (l : L ≤ L') : TL L' T := ⟨Nat.le_trans h.1 l, h.2⟩
theorem TL.list {L : Nat} {T : List PyData} (h : TL L T) : TmD 4 (3002 * L + 3) (.list T) := tm_list h.2 h.1
theorem t_b (b : Bool) : TmD 3 3000 (.bool b) := (tm_bool b).up (by decide) (by decide)
theorem t_i {N : Nat} {i : Int} (h : NB N i) (h0 : 0 < N) (h1 : N ≤ 1000) : TmD 3 3000 (.int i) := (tm_int h h0 (by omega)).up (by decide) (by omega)
theorem t_f {N : Nat} {q : Rat} (h : RB N q) (h0 : 0 < N) (h1 : N ≤ 1000) : TmD 3 3000 (fr q) := (tm_fr h h0 (by omega)).up (by decide) (by omega)
theorem t_v {N : Nat} {ps : List Rat} (h : VB N ps) (hl : ps.length ≤ 5) (h0 : 0 < N) (h1 : N ≤ 200) : TmD 3 3000 (vec ps) := (tm_vec h hl h0 (by omega)).up (by decide) (by omega)
theorem TL.lt {L : Nat} {T : List PyData} (h : TL L T) (l : L < 1000) : T.length < lim := lim_lt _ (Nat.lt_of_le_of_lt h.1 l)
theorem TL.le {L : Nat} {T T' : List PyData} (h : TL L T) (l : L + T'.length ≤ 1000) : T.length + T'.length ≤ lim := lim_n _ (Nat.le_trans (Nat.add_le_add_right h.1 _) l)
theorem nx_facts {n : Nat} (h : 2 < n) : PyData.bool (decide (nx n < nx (n + 1))) = .bool true ∧ PyData.bool (decide (nx (n + 1) < nx n)) = .bool false ∧ PyData.bool (decide (nx (n + 1) ≤ nx n)) = .bool false ∧ PyData.bool (decide (nx n ≤ nx (n + 1))) = .bool true ∧
    (nx n - nx (n + 1)).num.sign = -1 ∧ (nx (n + 1) - nx n).num.sign = 1 ∧ (nx n / nx (n + 1)).floor = 0 ∧ (nx (n + 1) / nx n).floor = 1 := by
  have hl := nx_lt n
  refine ⟨by rw [decide_eq_true hl], by rw [decide_eq_false (Rat.not_lt.mpr (Rat.le_of_lt hl))], by rw [decide_eq_false (Rat.not_le.mpr hl)], by rw [decide_eq_true (Rat.le_of_lt hl)], sign_neg ?_, sign_pos ?_, nx_floor1 (by omega), nx_floor2 h⟩
  · grind
  · grind
theorem vec_rep (m : Nat) : PyData.tuple (List.replicate (Int.toNat (m : Int)) [PyData.tuple [.int 0, .int 1]]).flatten = vec (List.replicate m 0) := by
  rw [Int.toNat_natCast, List.flatten_replicate_singleton]
  unfold vec
  rw [List.map_replicate]; rfl
theorem VB.up {N M : Nat} {ps : List Rat} (h : VB N ps) (l : N ≤ M) : VB M ps := fun p hp => (h p hp).up l
theorem VB.zip {N : Nat} {ps qs : List Rat} {f : Rat → Rat → Rat} {N' : Nat} (h : VB N ps) (k : VB N qs) (hf : ∀ p q, RB N p → RB N q → RB N' (f p q)) : VB N' (List.zipWith f ps qs) := by
  intro p hp
  rw [← zipWith_map] at hp
  obtain ⟨x, hx, rfl⟩ := List.mem_map.mp hp
  obtain ⟨m1, m2⟩ := zip_mem hx
  exact hf _ _ (h _ m1) (k _ m2)
theorem VB.map {N N' : Nat} {ps : List Rat} {f : Rat → Rat} (h : VB N ps) (hf : ∀ p, RB N p → RB N' (f p)) : VB N' (ps.map f) := by
  intro p hp
  obtain ⟨x, hx, rfl⟩ := List.mem_map.mp hp
  exact hf _ (h _ hx)
/-! ### what the top has written -/
def gz (P : Program) (w : World) (K : PySem.W.Frag) (mg : Str → Option Value) (base : Heap) (k : Nat) (grd : Bool) : Gd := ⟨P, w, K, mg, base, k, grd⟩
def DfX (K : PySem.W.Frag) (mg : Str → Option Value) (x : Str) (st : Stmt) (ps : List Str) : Prop := ∃ f fd, mg x = some (.ref f) ∧ L2.Fun K x x st f fd ∧ Binds K fd ps []
theorem df_mk {K : PySem.W.Frag} {mg : Str → Option Value} {h : Heap} {x : Str} {st : Stmt} {ps : List Str} {f : Addr} {oc : Value} {od an : Option Addr} {osl : Array (Option Value)} {kV doc pm cdv ct : Value} (X : K.In h) (G : h.Ns mainGlobals mg)
    (a : PySem.W.nsIn K mainGlobals x = some (some (.ref f))) (l : K.lookup f = some ⟨oc, od, .func (PySem.W.fnOf x x (defArgs st) (defBody st) (defScope st) .none kV doc pm an cdv ct), osl⟩) (c : PySem.W.codeIn K cdv x = true) (k : PySem.W.keepIn K (.ref f) = true)
    (b : ∀ (kV doc pm : Value) (an : Option Addr) (cdv ct : Value) (us : List Value), us.length = ps.length → bindArgs (PySem.W.fnOf x x (defArgs st) (defBody st) (defScope st) .none kV doc pm an cdv ct) ⟨us, []⟩ = pure (ps.zip us)) : DfX K mg x st ps :=
  ⟨f, _, PySem.W.mg_of X G a, fun_mk l c k, (fun_mk l c k).binds b⟩
end DW

namespace DW
open PySem PySem.Spec L2
open PyProof.Rows hiding St
/-! ### a list of own lists -/
structure Nest (K : PySem.W.Frag) (F : Fx) (H S : Hp) (a : Addr) (ps : List Addr) (dss : List (List PyData)) : Prop where
  top : H a = some (.lst (ps.map V.ref))
  aS : S a = none
  aF : F.H0 a = none
  nd : ps.Nodup
  an : a ∉ ps
  len : ps.length = dss.length
  at_ : ∀ (k : Nat) (p : Addr) (ds : List PyData), ps[k]? = some p → dss[k]? = some ds → ∃ us, H p = some (.lst us) ∧ S p = none ∧ F.H0 p = none ∧ DpAll K S us ds
inductive Parts : List PyData → List (List PyData) → Prop
  | nil : Parts [] []
  | new {xs : List PyData} {dss : List (List PyData)} {d : PyData} : Parts xs dss → Parts (xs ++ [d]) (dss ++ [[d]])
  | put {xs : List PyData} {dss : List (List PyData)} {d : PyData} {k : Nat} {es : List PyData} : Parts xs dss → dss[k]? = some es → Parts (xs ++ [d]) (dss.set k (es ++ [d]))
section
variable {K : PySem.W.Frag} {F : Fx} {Γ : List Bd} {σ : St} {H S H1 S1 : Hp} {a : Addr} {ps : List Addr} {dss : List (List PyData)}
def Fx.re (F : Fx) (H S : Hp) : Fx := ⟨H, S, F.bag⟩
theorem GRel.rebase (g : GRel K F Γ σ H S) (nm : ∀ (j : Nat) (es : List PyData), Γ[j]? ≠ some (Bd.mu es)) : GRel K (F.re H S) Γ σ H S := by
  refine ⟨g.ex, Same.refl S, fun a o h => .inl ⟨o, h⟩, Kp.refl H, fun b hb => ?_, g.loc, fun i ds hi => absurd hi (nm i ds), g.raw, fun i j a ds es hi => absurd hi (nm i ds)⟩
  obtain ⟨h1, _, h3⟩ := g.bag b hb
  obtain ⟨_, _, _, _, _, q, _⟩ := id h3
  exact ⟨h1, ⟨_, q⟩, h3⟩
theorem GRel.unbase {Γ' : List Bd} {σ' : St} (g : GRel K F Γ σ H S) (g1 : GRel K (F.re H S) Γ' σ' H1 S1) (nm : ∀ (j : Nat) (es : List PyData), Γ'[j]? ≠ some (Bd.mu es)) : GRel K F Γ' σ' H1 S1 := by
  refine ⟨g1.ex, g.s0.trans g1.s0, fun a o h => ?_, g.keep.trans g1.keep, fun b hb => ?_, g1.loc, fun i ds hi => absurd hi (nm i ds), g1.raw, fun i j a ds es hi => absurd hi (nm i ds)⟩
  · rcases g1.nw a o h with ⟨u, z⟩ | z
    · exact g.nw a u z
    · exact .inr (g.h0 z)
  · obtain ⟨h1, _, h3⟩ := g1.bag b hb
    exact ⟨h1, (g.bag b hb).2.1, h3⟩
theorem Nest.nb (n : Nest K F H S a ps dss) (g : GRel K F Γ σ H S) {p : Addr} (hp : p = a ∨ p ∈ ps) : F.bag ≠ some p ∧ S p = none ∧ F.H0 p = none ∧ ∃ o, H p = some o := by
  have h : S p = none ∧ F.H0 p = none ∧ ∃ o, H p = some o := by
    rcases hp with rfl | hp
    · exact ⟨n.aS, n.aF, _, n.top⟩
    · obtain ⟨k, hk, e⟩ := List.getElem_of_mem hp
      have hk' : k < dss.length := by rw [← n.len]; exact hk
      obtain ⟨us, h1, h2, h3, _⟩ := n.at_ k p _ (by rw [List.getElem?_eq_getElem hk, e]) (List.getElem?_eq_getElem hk')
      exact ⟨h2, h3, _, h1⟩
  refine ⟨fun z => ?_, h⟩
  obtain ⟨_, ⟨o, q⟩, _⟩ := g.bag p z
  rw [h.2.1] at q
  cases q
/-- what is walked beside leaves it as it is -/
theorem Nest.beside (n : Nest K F H S a ps dss) (g : GRel K F Γ σ H S) {Γ' : List Bd} {σ' : St} (g1 : GRel K (F.re H S) Γ' σ' H1 S1) : Nest K F H1 S1 a ps dss := by
  have keep : ∀ {p : Addr}, (p = a ∨ p ∈ ps) → (∀ o, H p = some o → H1 p = some o) ∧ S1 p = none := fun {p} hp => by
    obtain ⟨h1, h2, h3, o, h4⟩ := n.nb g hp
    refine ⟨fun u e => g1.keep p u e h1, ?_⟩
    cases q : S1 p with
    | none => rfl
    | some u =>
      rcases g1.nw p u q with ⟨u', z⟩ | z
      · rw [show (F.re H S).S0 p = S p from rfl, h2] at z; cases z
      · rw [show (F.re H S).H0 p = H p from rfl, h4] at z; cases z
  refine ⟨(keep (.inl rfl)).1 _ n.top, (keep (.inl rfl)).2, n.aF, n.nd, n.an, n.len, fun k p ds hk hd => ?_⟩
  obtain ⟨us, h1, h2, h3, h4⟩ := n.at_ k p ds hk hd
  have hp : p = a ∨ p ∈ ps := .inr (List.mem_of_getElem? hk)
  exact ⟨us, (keep hp).1 _ h1, (keep hp).2, h3, dpa_mono g1.s0 h4⟩
/-- one more list -/
theorem Nest.add (n : Nest K F H S a ps dss) {p : Addr} {us : List V} {ds : List PyData} (h1 : H p = some (.lst us)) (h2 : S p = none) (h3 : F.H0 p = none) (h4 : DpAll K S us ds) (hn : p ≠ a ∧ p ∉ ps) : Nest K F (upd H a (.lst (ps.map V.ref ++ [.ref p]))) S a (ps ++ [p]) (dss ++ [ds]) := by
  refine ⟨by rw [upd_same, List.map_append]; rfl, n.aS, n.aF, ?_, ?_, by simp [n.len], fun k q es hk hd => ?_⟩
  · rw [List.nodup_append]
    refine ⟨n.nd, by simp, fun x hx y hy => ?_⟩
    rw [List.mem_singleton] at hy
    subst hy
    exact fun z => hn.2 (z ▸ hx)
  · intro z
    rcases List.mem_append.mp z with z | z
    · exact n.an z
    · exact hn.1 (List.mem_singleton.mp z).symm
  · by_cases e : k < ps.length
    · rw [List.getElem?_append_left e] at hk
      rw [List.getElem?_append_left (by rw [← n.len]; exact e)] at hd
      obtain ⟨vs, q1, q2, q3, q4⟩ := n.at_ k q es hk hd
      have : q ≠ a := fun z => n.an (z ▸ List.mem_of_getElem? hk)
      exact ⟨vs, by rw [upd_ne this]; exact q1, q2, q3, q4⟩
    · have e2 : k = ps.length := by
        have := (List.getElem?_eq_some_iff.mp hk).1
        rw [List.length_append, List.length_singleton] at this
        omega
      subst e2
      rw [List.getElem?_append_right (Nat.le_refl _), Nat.sub_self] at hk
      rw [n.len, List.getElem?_append_right (Nat.le_refl _), Nat.sub_self] at hd
      cases hk
      cases hd
      exact ⟨us, by rw [upd_ne hn.1]; exact h1, h2, h3, h4⟩
/-- one list grows -/
theorem Nest.grow (n : Nest K F H S a ps dss) {k : Nat} {p : Addr} {us : List V} {es : List PyData} (hk : ps[k]? = some p) (hd : DpAll K S us es) : Nest K F (upd H p (.lst us)) S a ps (dss.set k es) := by
  have pa : a ≠ p := fun z => n.an (z ▸ List.mem_of_getElem? hk)
  refine ⟨by rw [upd_ne pa]; exact n.top, n.aS, n.aF, n.nd, n.an, by simp [n.len], fun j q fs hj hf => ?_⟩
  have hjl : j < dss.length := by rw [← n.len]; exact (List.getElem?_eq_some_iff.mp hj).1
  by_cases e : j = k
  · subst e
    rw [hk] at hj
    cases hj
    rw [List.getElem?_set_self hjl] at hf
    cases hf
    obtain ⟨vs, q1, q2, q3, q4⟩ := n.at_ j p _ hk (List.getElem?_eq_getElem hjl)
    exact ⟨us, upd_same, q2, q3, hd⟩
  · rw [List.getElem?_set_ne (Ne.symm e)] at hf
    obtain ⟨vs, q1, q2, q3, q4⟩ := n.at_ j q fs hj hf
    have : q ≠ p := fun z => by
      subst z
      have hkl := (List.getElem?_eq_some_iff.mp hk)
      have hjl' := (List.getElem?_eq_some_iff.mp hj)
      exact e ((List.getElem_inj n.nd).mp (hjl'.2.trans hkl.2.symm))
    exact ⟨vs, by rw [upd_ne this]; exact q1, q2, q3, q4⟩
/-- an own object changes, beside all names -/
theorem GRel.touch (g : GRel K F Γ σ H S) {p : Addr} {o : HO} (h1 : S p = none) (h2 : F.H0 p = none) (nm : ∀ (j : Nat) (es : List PyData), Γ[j]? ≠ some (Bd.mu es)) : GRel K F Γ σ (upd H p o) S :=
  g.poke h1 h2 fun j es hj => absurd hj (nm j es)
end
def Fx.kept (F : Fx) : Hp := fun x => if F.bag = some x then none else F.H0 x
section
variable {G : Gd} {M : Nm} {F : Fx} {Γ : List Bd} {Q : PyData → Prop} {Qb : Bool → Prop} {p pos : Pos} {ix : Expr}
theorem GRel.kept {K : PySem.W.Frag} {σ : St} {H S : Hp} (g : GRel K F Γ σ H S) : Same F.kept H := fun x o e => by
  unfold Fx.kept at e
  by_cases hb : F.bag = some x
  · rw [if_pos hb] at e; cases e
  · rw [if_neg hb] at e; exact g.keep x o e hb
theorem wt_neKept {p2 : Pos} (i : Nat) {x : Str} {a : Addr} {es : List PyData} (hn : Rdb M i x) (hb : Γ[i]? = some (Bd.rw (.ref a))) (hd : Dp G.K F.kept (.ref a) (.list es)) (hs : SeqAt.shaped (.list es) = true) (h : Qb (!es.isEmpty)) : WT G M F (.Compare (.Name x p) [.NotEq] [.List [] p2] pos) Γ Qb := by
  refine ⟨fun X gd σ H S hl g => tWt.of (pt_cmpR (op_neA gd) (pe_var (gd.at hn.1) (gd.vis hn) hn.2.2.1 hn.2.2.2) (pe_w (.List [] p2)) (nomark _)) ?_⟩
  refine ⟨_, g.raw i _ hb, ((we_fresh (Q := fun d => d = .list []) (wf_list (wl_nil ⟨Nat.zero_le _, rfl⟩)) : WE G M F (.List [] p2) Γ fun d => d = .list []).run X gd σ H S hl g).mono fun y H2 ⟨S2, d, g2, e2, k2, hdd, ed⟩ => ?_⟩
  subst ed
  have e : PyData.eqv (.list es) (.list []) = es.isEmpty := by cases es <;> simp [PyData.eqv, PyData.eqvAll]
  exact .inr ⟨.list es, .list [], dp_mono g2.kept hd, dp_mono g2.ex hdd, hs, by decide +kernel, _, rfl, S2, g2, e2, k2, by rw [e]; exact h⟩
theorem we_lenKept {p2 : Pos} (i : Nat) {x : Str} {a : Addr} {vs : List V} (hm : G.mg "len" = none) (hg : ("len" : Str) ∈ M.gl) (hn : Rdb M i x) (hb : Γ[i]? = some (Bd.rw (.ref a))) (h0 : F.H0 a = some (.lst vs)) (nb : F.bag ≠ some a) (h : Q (.int vs.length)) : WE G M F (.Call (.Name "len" p) [.Name x p2] [] pos) Γ Q := by
  refine ⟨fun X gd σ H S hl g => tW.of (pe_callB call_len_seq (gd.gl hg) (by rw [gd.mg]; exact hm) (by decide +kernel) (pa_cons (pe_var (gd.at hn.1) (gd.vis hn) hn.2.2.1 hn.2.2.2) pa_nil (by rfl)) (by decide) (by decide) (by rfl) rfl) ?_⟩
  exact ⟨_, g.raw i _ hb, a, vs, rfl, .inl (SqL.of (g.keep a _ h0 nb)), PostE.here g (.int _) h⟩
/-- groups[ix].append(c) -/
theorem put_run {p1 p2 p3 pg pc : Pos} (ig ic : Nat) {xg xc : Str} {X : Cx} {a : Addr} {ps : List Addr} {dss : List (List PyData)} {d : PyData} {σ : St} {H S : Hp} (hg : Rdb M ig xg) (hc : Rdb M ic xc) (nm : ∀ (j : Nat) (es : List PyData), Γ[j]? ≠ some (Bd.mu es)) (gd : Good G M X) (hl : σ.length = M.N.length)
    (g : GRel G.K F Γ σ H S) (n : Nest G.K F H S a ps dss) (hb : Γ[ig]? = some (Bd.rw (.ref a))) (hd : Γ[ic]? = some (Bd.im d)) (small : ∀ es, es ∈ dss → es.length < lim)
    (h : WE G M (F.re H S) ix Γ fun k => ∃ j : Nat, k = .int (j : Int) ∧ j < ps.length) (hs : PlainIx ix := by intro _ _; rfl)
    (hbase : ∀ env, attributeBase (.Subscript (.Name xg pg) ix p1) "append" env (eval (.Subscript (.Name xg pg) ix p1) env) = eval (.Subscript (.Name xg pg) ix p1) env := by intro _; rfl)
    (hfew : ∀ env, ((backTo p3 (starEach [.Name xc pc] env)).all (fun x => !x.1) && (backToKw p3 (keywordEach [] env)).all (fun x => x.1.isSome) && decide ([Expr.Name xc pc].length + ([] : List Keyword).length + (if ([] : List Keyword).isEmpty then 0 else 1) < 30)) = true := by intro _; rfl)
    (hline : (p2.endLine == p3.line) = true := by rfl) (hst : ∀ env, starEach [.Name xc pc] env = [(false, eval (.Name xc pc) env)] := by intro _; rfl) :
    tWs X (.Expr (.Call (.Attribute (.Subscript (.Name xg pg) ix p1) "append" p2) [.Name xc pc] [] p3) pos) ⟨fun σ' H' => σ' = σ ∧ ∃ S' k es, GRel G.K F Γ σ H' S' ∧ Same S S' ∧ dss[k]? = some es ∧ Nest G.K F H' S' a ps (dss.set k (es ++ [d])), fun _ _ => False, fun _ _ => False, fun _ _ => False⟩ σ H := by
  refine tWs.of (ps_expr (pe_bm PySem.F.plainAttrs_list PySem.F.slot_list_append PySem.F.type_list_append mt_append (pe_ix ix_list (pe_var (gd.at hg.1) (gd.vis hg) hg.2.2.1 hg.2.2.2) (pe_w ix) hs) (pa_cons (pe_var (gd.at hc.1) (gd.vis hc) hc.2.2.1 hc.2.2.2) pa_nil (hst X.env)) (hbase X.env) (hfew X.env) hline (hst X.env) (by rfl)) (by rfl)) ?_
  refine ⟨_, g.raw ig _ hb, (h.run X gd σ H S hl (g.rebase nm)).mono fun kv H1 ⟨S1, dk, g1, e1, k1, hdk, j, ej, hj⟩ => ?_⟩
  subst ej
  cases hdk
  have n1 := n.beside g g1
  have g1' := g.unbase g1 nm
  have hpj : ps[j]? = some ps[j] := List.getElem?_eq_getElem hj
  have hjd : j < dss.length := by rw [← n.len]; exact hj
  obtain ⟨us, q1, q2, q3, q4⟩ := n1.at_ j _ _ hpj (List.getElem?_eq_getElem hjd)
  obtain ⟨v, w1, w2⟩ := g1'.loc ic d hd
  refine ⟨a, _, (j : Int), .ref ps[j], rfl, rfl, SqL.of n1.top, atI_nat' (by rw [List.getElem?_map, hpj]; rfl), .inl ⟨rfl, us, SqL.of q1⟩, v, w1, ?_⟩
  refine ⟨ps[j], us, v, rfl, rfl, q1, by rw [q4.len]; exact small _ (List.getElem_mem hjd), rfl, S1, j, dss[j], g1'.touch q2 q3 nm, e1, List.getElem?_eq_getElem hjd, n1.grow hpj (q4.app (.one w2))⟩
/-- groups.append([c]) -/
theorem add_run {p2 p3 p4 pg pc : Pos} (ig ic : Nat) {xg xc : Str} {X : Cx} {a : Addr} {ps : List Addr} {dss : List (List PyData)} {d : PyData} {σ : St} {H S : Hp} (hg : Rdb M ig xg) (hc : Rdb M ic xc) (nm : ∀ (j : Nat) (es : List PyData), Γ[j]? ≠ some (Bd.mu es)) (gd : Good G M X) (hl : σ.length = M.N.length)
    (g : GRel G.K F Γ σ H S) (n : Nest G.K F H S a ps dss) (hb : Γ[ig]? = some (Bd.rw (.ref a))) (hd : Γ[ic]? = some (Bd.im d)) (small : dss.length < lim)
    (hbase : ∀ env, attributeBase (.Name xg pg) "append" env (eval (.Name xg pg) env) = eval (.Name xg pg) env := by intro _; rfl)
    (hfew : ∀ env, ((backTo p3 (starEach [.List [.Name xc pc] p4] env)).all (fun x => !x.1) && (backToKw p3 (keywordEach [] env)).all (fun x => x.1.isSome) && decide ([Expr.List [.Name xc pc] p4].length + ([] : List Keyword).length + (if ([] : List Keyword).isEmpty then 0 else 1) < 30)) = true := by intro _; rfl)
    (hline : (p2.endLine == p3.line) = true := by rfl) (hst : ∀ env, starEach [.List [.Name xc pc] p4] env = [(false, eval (.List [.Name xc pc] p4) env)] := by intro _; rfl) :
    tWs X (.Expr (.Call (.Attribute (.Name xg pg) "append" p2) [.List [.Name xc pc] p4] [] p3) pos) ⟨fun σ' H' => σ' = σ ∧ ∃ S' ps', GRel G.K F Γ σ H' S' ∧ Same S S' ∧ Nest G.K F H' S' a ps' (dss ++ [[d]]), fun _ _ => False, fun _ _ => False, fun _ _ => False⟩ σ H := by
  refine tWs.of (ps_expr (pe_bm PySem.F.plainAttrs_list PySem.F.slot_list_append PySem.F.type_list_append mt_append (pe_var (gd.at hg.1) (gd.vis hg) hg.2.2.1 hg.2.2.2) (pa_cons (pe_w (.List [.Name xc pc] p4)) pa_nil (hst X.env)) (hbase X.env) (hfew X.env) hline (hst X.env) (by rfl)) (by rfl)) ?_
  refine ⟨_, g.raw ig _ hb, .inl ⟨rfl, _, SqL.of n.top⟩, ?_⟩
  refine ((wf_list (Q := fun es => es = [d]) (wl_cons (we_var ic hc hd (wl_nil ⟨lim_n 1 (by decide), rfl⟩))) : WF G M (F.re H S) (.List [.Name xc pc] p4) Γ fun es => es = [d]).run X gd σ H S hl (g.rebase nm)).mono fun v H1 ⟨S1, q, zs, es, e0, hq0, w1, w2, w3, w5, g1, e1, _, hdd, ee⟩ => ?_
  subst e0 ee
  have n1 := n.beside g g1
  have g1' := g.unbase g1 nm
  have hqF : F.H0 q = none := g.h0 hq0
  have hqn : q ≠ a ∧ q ∉ ps := by
    have : ¬ (q = a ∨ q ∈ ps) := fun z => by
      obtain ⟨_, _, _, o, z⟩ := n.nb g z
      rw [hq0] at z; cases z
    exact ⟨fun z => this (.inl z), fun z => this (.inr z)⟩
  refine ⟨a, _, .ref q, rfl, rfl, n1.top, by rw [List.length_map, n.len]; exact small, rfl, S1, ps ++ [q], g1'.touch n1.aS n1.aF nm, e1, n1.add w1 w2 hqF hdd hqn⟩
end
section
variable {K : PySem.W.Frag} {F : Fx} {Γ : List Bd} {σ : St} {H S : Hp} {a : Addr} {ps : List Addr} {dss : List (List PyData)}
theorem dpa_refs {T : Hp} : ∀ {ps : List Addr} {dss : List (List PyData)}, ps.length = dss.length → (∀ (k : Nat) (p : Addr) (ds : List PyData), ps[k]? = some p → dss[k]? = some ds → Dp K T (.ref p) (.list ds)) → DpAll K T (ps.map V.ref) (dss.map PyData.list)
  | [], [], _, _ => .nil
  | p :: ps, ds :: dss, hl, h => .cons (h 0 p ds rfl rfl) (dpa_refs (by simpa using hl) fun k q es h1 h2 => h (k + 1) q es (by simpa using h1) (by simpa using h2))
  | [], _ :: _, hl, _ => by simp at hl
  | _ :: _, [], hl, _ => by simp at hl
theorem Nest.dp (n : Nest K F H S a ps dss) (g : GRel K F Γ σ H S) : Dp K (F.re H S).kept (.ref a) (.list (dss.map PyData.list)) := by
  have kp : ∀ {x : Addr}, F.bag ≠ some x → (F.re H S).kept x = H x := fun {x} hx => if_neg hx
  have sk : Same S (F.re H S).kept := fun x o e => by
    rw [kp fun z => by rw [(g.bag x z).1] at e; cases e]
    exact g.ex x o e
  refine .lst (.inl (.inl ((kp (n.nb g (.inl rfl)).1).trans n.top))) (dpa_refs n.len fun k p ds h1 h2 => ?_)
  obtain ⟨us, q1, q2, q3, q4⟩ := n.at_ k p ds h1 h2
  exact .lst (.inl (.inl ((kp (n.nb g (.inr (List.mem_of_getElem? h1))).1).trans q1))) (dpa_mono sk q4)
theorem Nest.freeze (n : Nest K F H S a ps dss) (g : GRel K F Γ σ H S) {i : Nat} (hi : Γ[i]? = some (Bd.rw (.ref a))) (nm : ∀ (j : Nat) (es : List PyData), Γ[j]? ≠ some (Bd.mu es)) : ∃ S', GRel K F (Γ.set i (Bd.im (.list (dss.map PyData.list)))) σ H S' ∧ Same S S' := by
  classical
  let S' : Hp := fun x => if x = a ∨ x ∈ ps then H x else S x
  have inn : ∀ {x : Addr}, (x = a ∨ x ∈ ps) → S' x = H x := fun h => if_pos h
  have out : ∀ {x : Addr}, ¬ (x = a ∨ x ∈ ps) → S' x = S x := fun h => if_neg h
  have sm : Same S S' := fun x o e => by
    rw [out fun z => by rw [(n.nb g z).2.1] at e; cases e]
    exact e
  have no : ∀ (j : Nat) (es : List PyData), (Γ.set i (Bd.im (.list (dss.map PyData.list))))[j]? ≠ some (Bd.mu es) := fun j es z => by
    rcases get_set z with ⟨_, q, _⟩ | ⟨_, q⟩
    · cases q
    · exact nm j es q
  refine ⟨S', ⟨fun x o e => ?_, g.s0.trans sm, fun x o e => ?_, g.keep, fun b hb => ?_, fun j d hj => ?_, fun j ds hj => absurd hj (no j ds), fun j v hj => ?_, fun j k x ds es hj => absurd hj (no j ds)⟩, sm⟩
  · by_cases h : x = a ∨ x ∈ ps
    · rw [inn h] at e; exact e
    · rw [out h] at e; exact g.ex x o e
  · by_cases h : x = a ∨ x ∈ ps
    · exact .inr (n.nb g h).2.2.1
    · rw [out h] at e; exact g.nw x o e
  · obtain ⟨h1, h2, h3⟩ := g.bag b hb
    exact ⟨by rw [out fun z => (n.nb g z).1 hb]; exact h1, h2, h3.mono sm rfl⟩
  · rcases get_set hj with ⟨rfl, q, _⟩ | ⟨_, q⟩
    · cases q
      refine ⟨_, g.raw _ _ hi, .lst (.inl (.inl ((inn (.inl rfl)).trans n.top))) (dpa_refs n.len fun k p ds h1 h2 => ?_)⟩
      obtain ⟨us, q1, q2, q3, q4⟩ := n.at_ k p ds h1 h2
      exact .lst (.inl (.inl ((inn (.inr (List.mem_of_getElem? h1))).trans q1))) (dpa_mono sm q4)
    · obtain ⟨v, h1, h2⟩ := g.loc j d q
      exact ⟨v, h1, dp_mono sm h2⟩
  · rcases get_set hj with ⟨rfl, q, _⟩ | ⟨_, q⟩
    · cases q
    · exact g.raw j v q
end
end DW

namespace DW
open PySem PySem.Spec L2
open PyProof.Rows hiding St
section
variable {G : Gd} {M : Nm} {F : Fx} {Γ : List Bd} {D : DE} {iter c ix : Expr}
theorem Parts.mem {xs : List PyData} {dss : List (List PyData)} (h : Parts xs dss) : (∀ es, es ∈ dss → es ≠ [] ∧ es.length ≤ xs.length ∧ ∀ e, e ∈ es → e ∈ xs) ∧ dss.length ≤ xs.length := by
  induction h with
  | nil => exact ⟨fun _ h => (nomatch h), Nat.le_refl _⟩
  | new _ ih =>
    refine ⟨fun es he => ?_, by simp; exact ih.2⟩
    rcases List.mem_append.mp he with m | m
    · obtain ⟨h1, h2, h3⟩ := ih.1 es m
      exact ⟨h1, by simp; omega, fun e he => List.mem_append_left _ (h3 e he)⟩
    · rw [List.mem_singleton] at m
      subst m
      refine ⟨List.cons_ne_nil _ _, by simp, fun e he => List.mem_append_right _ he⟩
  | put _ hk ih =>
    refine ⟨fun es he => ?_, by simp; omega⟩
    rcases List.mem_or_eq_of_mem_set he with m | m
    · obtain ⟨h1, h2, h3⟩ := ih.1 es m
      exact ⟨h1, by simp; omega, fun e he => List.mem_append_left _ (h3 e he)⟩
    · subst m
      obtain ⟨h1, h2, h3⟩ := ih.1 _ (List.mem_of_getElem? hk)
      refine ⟨by simp, by simp; omega, fun e he => ?_⟩
      rcases List.mem_append.mp he with m | m
      · exact List.mem_append_left _ (h3 e m)
      · exact List.mem_append_right _ m
/-- for c in xs: if ..: groups[ix].append(c) else: groups.append([c]) -/
theorem w1_nest (ig ic : Nat) {xg xc : Str} {pf p1 p2 p3 p4 p5 p6 q1 q2 q3 q4 q5 q6 q7 q8 : Pos} (hg : Rdb M ig xg) (hcS : Sto M ic xc) (hc : Rdb M ic xc) (hne : ig ≠ ic) (hmu : Γ[ig]? = some (Bd.mu [])) (nm : ∀ (j : Nat) (es : List PyData), Γ[j]? = some (Bd.mu es) → j = ig) (hic : ic < Γ.length)
    (h : WI G M F (.Name xc pf) iter Γ fun ds => ds.length ≤ 1000 ∧
      (∀ (F' : Fx) (a : Addr) (vs : List V) (dss : List (List PyData)) (d : PyData) (xs : List PyData), F'.bag = F.bag → F'.bag ≠ some a → F'.H0 a = some (.lst vs) → vs.length = dss.length → Dp G.K F'.kept (.ref a) (.list (dss.map PyData.list)) → Parts xs dss → (∃ i : Nat, xs = ds.take i) → d ∈ ds → dss.length ≤ 1000 →
        WT G M F' c ((Γ.set ig (Bd.rw (.ref a))).set ic (Bd.im d)) (fun x => x = true → dss ≠ []) ∧ (dss ≠ [] → WE G M F' ix ((Γ.set ig (Bd.rw (.ref a))).set ic (Bd.im d)) fun k => ∃ j : Nat, k = .int (j : Int) ∧ j < dss.length)) ∧
      (∀ (dss : List (List PyData)) (t : Bd), Parts ds dss → D.nx ((Γ.set ig (Bd.im (.list (dss.map PyData.list)))).set ic t)))
    (hs0 : ∀ env x, foldedSetIterable iter env x = pure x := by intro _ _; rfl) (hsx : PlainIx ix := by intro _ _; rfl)
    (hb1 : ∀ env, attributeBase (.Subscript (.Name xg p1) ix p2) "append" env (eval (.Subscript (.Name xg p1) ix p2) env) = eval (.Subscript (.Name xg p1) ix p2) env := by intro _; rfl)
    (hf1 : ∀ env, ((backTo p4 (starEach [.Name xc p3] env)).all (fun x => !x.1) && (backToKw p4 (keywordEach [] env)).all (fun x => x.1.isSome) && decide ([Expr.Name xc p3].length + ([] : List Keyword).length + (if ([] : List Keyword).isEmpty then 0 else 1) < 30)) = true := by intro _; rfl)
    (hl1 : (p5.endLine == p4.line) = true := by rfl) (hst1 : ∀ env, starEach [.Name xc p3] env = [(false, eval (.Name xc p3) env)] := by intro _; rfl)
    (hb2 : ∀ env, attributeBase (.Name xg q1) "append" env (eval (.Name xg q1) env) = eval (.Name xg q1) env := by intro _; rfl)
    (hf2 : ∀ env, ((backTo q4 (starEach [.List [.Name xc q2] q3] env)).all (fun x => !x.1) && (backToKw q4 (keywordEach [] env)).all (fun x => x.1.isSome) && decide ([Expr.List [.Name xc q2] q3].length + ([] : List Keyword).length + (if ([] : List Keyword).isEmpty then 0 else 1) < 30)) = true := by intro _; rfl)
    (hl2 : (q5.endLine == q4.line) = true := by rfl) (hst2 : ∀ env, starEach [.List [.Name xc q2] q3] env = [(false, eval (.List [.Name xc q2] q3) env)] := by intro _; rfl) :
    W1 G M F (.For (.Name xc pf) iter [.If c [.Expr (.Call (.Attribute (.Subscript (.Name xg p1) ix p2) "append" p5) [.Name xc p3] [] p4) p6] [.Expr (.Call (.Attribute (.Name xg q1) "append" q5) [.List [.Name xc q2] q3] [] q4) q6] q7] [] q8) Γ D := by
  refine ⟨fun hΓ X gd σ H S hl g => tWs.of (ps_for (by rw [gd.xe]; exact PassesOwn.never) gd.calm (pi_w _ iter) (pg_w _) (pss_w _) (hs0 X.env)) ?_⟩
  refine fun pins s I => thn (h.run X gd σ H S hl g pins s I) fun v s1 h1 => thn h1 fun itv s2 ⟨it, fp, tn, It, H1, e0, I2, T, st2, f2, S1, ds, g1, e1, _, io, _, hsz, hstep, hend⟩ => ?_
  refine ⟨it, fp, tn, It, H1, e0, I2, T, st2, f2, ?_⟩
  obtain ⟨a, us, o1, o2, o3, o4, o5⟩ := g1.own ig [] hmu
  cases o5
  have hig : ig < Γ.length := (List.getElem?_eq_some_iff.mp hmu).1
  -- names without own lists
  have nmr : ∀ (t : Bd), (∀ es, t ≠ Bd.mu es) → ∀ (j : Nat) (es : List PyData), ((Γ.set ig (Bd.rw (.ref a))).set ic t)[j]? ≠ some (Bd.mu es) := fun t ht j es z => by
    rcases get_set z with ⟨_, q, _⟩ | ⟨_, q⟩
    · exact ht es q.symm
    · rcases get_set q with ⟨_, q, _⟩ | ⟨ne, q⟩
      · cases q
      · exact ne (nm j es q)
  have gr : GRel G.K F (Γ.set ig (Bd.rw (.ref a))) σ H1 S1 := by
    refine g1.re (fun j d hj => ?_) (fun j es hj => ?_) fun j v hj => ?_
    · rcases get_set hj with ⟨_, q, _⟩ | ⟨_, q⟩
      · cases q
      · exact g1.loc j d q
    · rcases get_set hj with ⟨_, q, _⟩ | ⟨ne, q⟩
      · cases q
      · exact absurd (nm j es q) ne
    · rcases get_set hj with ⟨rfl, q, _⟩ | ⟨_, q⟩
      · cases q; exact o1
      · exact g1.raw j v q
  have hgc : (Γ.set ig (Bd.rw (.ref a)))[ic]? = Γ[ic]? := List.getElem?_set_ne hne
  have hself : (Γ.set ig (Bd.rw (.ref a))).set ic Γ[ic] = Γ.set ig (Bd.rw (.ref a)) := by
    refine List.ext_getElem? fun j => ?_
    by_cases hj : ic = j
    · subst hj
      rw [List.getElem?_set_self (by simpa using hic), hgc, List.getElem?_eq_getElem hic]
    · rw [List.getElem?_set_ne hj]
  have hΓic : ∀ es, Γ[ic] ≠ Bd.mu es := fun es z => hne (nm ic es (by rw [List.getElem?_eq_getElem hic, z])).symm
  refine ⟨fun i m σ' H' => m = ds.length - i ∧ i ≤ ds.length ∧ ∃ t S' ps dss, (∀ es, t ≠ Bd.mu es) ∧ σ'.length = M.N.length ∧ GRel G.K F ((Γ.set ig (Bd.rw (.ref a))).set ic t) σ' H' S' ∧ Same S1 S' ∧ Parts (ds.take i) dss ∧ Nest G.K F H' S' a ps dss,
    ⟨ds.length, rfl, Nat.zero_le _, Γ[ic], S1, [], [], hΓic, hl, by rw [hself]; exact gr, Same.refl S1, .nil, ⟨o2, o3, o4, List.nodup_nil, by simp, rfl, fun k p es h => by simp at h⟩⟩, ?_⟩
  rintro i m σ' H' ⟨rfl, hi, t, S', ps, dss, ht, r1, r2, r3, r4, r5⟩
  by_cases hlt : i < ds.length
  · have hdi : ds[i]? = some ds[i] := List.getElem?_eq_getElem hlt
    obtain ⟨go, yl⟩ := io.go i ds[i] H' S' r3 r2.ex hdi
    refine .inr ⟨go, fun σ2 H2 => ∃ t S' ps dss, (∀ es, t ≠ Bd.mu es) ∧ σ2.length = M.N.length ∧ GRel G.K F ((Γ.set ig (Bd.rw (.ref a))).set ic t) σ2 H2 S' ∧ Same S1 S' ∧ Parts (ds.take (i + 1)) dss ∧ Nest G.K F H2 S' a ps dss, fun σ2 H2 w => ⟨ds.length - (i + 1), by omega, rfl, by omega, w⟩, fun x H'' y => ?_⟩
    obtain ⟨S3, g3, e3, _, d3⟩ := (r2.rebase (nmr t ht)).yield (yl x H'' y)
    have n3 := r5.beside r2 g3
    have g3' := r2.unbase g3 (nmr t ht)
    have hlen : ((Γ.set ig (Bd.rw (.ref a))).set ic t).length = M.N.length := by rw [List.length_set, List.length_set]; exact hΓ
    refine ((wg_name (G := G) (F := F.re H'' S3) ic hcS (N := fun Γ2 => Γ2 = ((Γ.set ig (Bd.rw (.ref a))).set ic t).set ic (Bd.im ds[i])) rfl : WG G M (F.re H'' S3) (.Name xc pf) ds[i] _ _).run hlen X gd σ' H'' S3 x r1 (g3'.rebase (nmr t ht)) d3).mono fun σ4 H4 ⟨Γ4, S4, w1, w1', w2, w3, w4⟩ => ?_
    rw [List.set_set] at w4
    subst w4
    have im0 : ∀ es, Bd.im ds[i] ≠ Bd.mu es := fun es z => nomatch z
    have nm4 := nmr (Bd.im ds[i]) im0
    have n4 := n3.beside g3' w2
    have g4 := g3'.unbase w2 nm4
    have hP := r4.mem
    have hz : dss.length ≤ 1000 := by
      have := hP.2
      rw [List.length_take] at this
      omega
    obtain ⟨hcond, hidx⟩ := hstep (F.re H4 S4) a (ps.map V.ref) dss ds[i] _ rfl (n4.nb g4 (.inl rfl)).1 n4.top (by rw [List.length_map]; exact n4.len) (n4.dp g4) r4 ⟨i, rfl⟩ (List.getElem_mem hlt) hz
    refine tWb.of (pss_one (ps_if (pt_w c) (pss_w _) (pss_w _))) ?_
    refine (hcond.run X gd σ4 H4 S4 w1 (g4.rebase nm4)).mono fun b H5 ⟨S5, g5, e5, _, hb⟩ => ?_
    have n5 := n4.beside g4 g5
    have g5' := g4.unbase g5 nm4
    have hbig : ((Γ.set ig (Bd.rw (.ref a))).set ic (Bd.im ds[i]))[ig]? = some (Bd.rw (.ref a)) := by
      rw [List.getElem?_set_ne (Ne.symm hne), List.getElem?_set_self hig]
    have hbic : ((Γ.set ig (Bd.rw (.ref a))).set ic (Bd.im ds[i]))[ic]? = some (Bd.im ds[i]) := List.getElem?_set_self (by simpa using hic)
    have sm5 : Same S1 S5 := r3.trans (e3.trans (w3.trans e5))
    cases b with
    | true =>
      have hne0 := hb rfl
      obtain ⟨_, hidx⟩ := hstep (F.re H5 S5) a (ps.map V.ref) dss ds[i] _ rfl (n5.nb g5' (.inl rfl)).1 n5.top (by rw [List.length_map]; exact n5.len) (n5.dp g5') r4 ⟨i, rfl⟩ (List.getElem_mem hlt) hz
      refine tWb.of (pss_one (ps_w _)) ((put_run ig ic hg hc nm4 gd w1 g5' n5 hbig hbic (fun es he => ?_) (we_mono (hidx hne0) fun k ⟨j, ej, hj⟩ => ⟨j, ej, by rw [n5.len]; exact hj⟩) hsx hb1 hf1 hl1 hst1).mono ?_ (fun _ _ z => z.elim) (fun _ _ z => z.elim) (fun _ _ z => z.elim))
      · have := (hP.1 es he).2.1
        rw [List.length_take] at this
        exact Nat.lt_of_le_of_lt (show es.length ≤ 1000 by omega) (by rw [lim_eq]; decide)
      · rintro σ6 H6 ⟨rfl, S6, k, es, z1, z2, z3, z4⟩
        exact ⟨Bd.im ds[i], S6, ps, _, im0, w1, z1, sm5.trans z2, by rw [take_succ hdi]; exact r4.put z3, z4⟩
    | false =>
      refine tWb.of (pss_one (ps_w _)) ((add_run ig ic hg hc nm4 gd w1 g5' n5 hbig hbic (Nat.lt_of_le_of_lt hz (by rw [lim_eq]; decide)) hb2 hf2 hl2 hst2).mono ?_ (fun _ _ z => z.elim) (fun _ _ z => z.elim) (fun _ _ z => z.elim))
      rintro σ6 H6 ⟨rfl, S6, ps', z1, z2, z4⟩
      exact ⟨Bd.im ds[i], S6, ps', _, im0, w1, z1, sm5.trans z2, by rw [take_succ hdi]; exact r4.new, z4⟩
  · have e : i = ds.length := by omega
    subst e
    have hbig : ((Γ.set ig (Bd.rw (.ref a))).set ic t)[ig]? = some (Bd.rw (.ref a)) := by
      rw [List.getElem?_set_ne (Ne.symm hne), List.getElem?_set_self hig]
    obtain ⟨S6, g6, e6⟩ := r5.freeze r2 hbig (nmr t ht)
    rw [List.take_length] at r4
    refine .inl ⟨io.stop ds.length H' S' r3 r2.ex (Nat.le_refl _), _, S6, r1, by rw [List.length_set, List.length_set, List.length_set]; exact hΓ, g6, e1.trans (r3.trans e6), ?_⟩
    have := hend dss t r4
    rw [List.set_comm _ _ (Ne.symm hne), List.set_set]
    exact this
end
section
variable {G : Gd} {M : Nm} {F : Fx} {Γ : List Bd} {tg iter elt cd : Expr} {Qd : List PyData → Prop} {scope : Scope}
/-- [elt for tg in iter if c]: some of the items -/
theorem wc_sub (kd : List Kd) (gl : List Str) (own : List (Str × Nat)) (hcp : cpOk M scope kd gl own = true)
    (h : WI G M F tg iter Γ fun ds => (∀ d, d ∈ ds → WV G (blkNm M scope kd gl) F (own.map (·.2)) tg d (wipeG Γ (own.map (·.2))) fun Γ2 => WT G (blkNm M scope kd gl) F cd Γ2 fun x => (x = true → WE G (blkNm M scope kd gl) F elt Γ2 fun y => y = d)) ∧ (∀ ys : List PyData, ys.Sublist ds → Qd ys))
    (hΓ : Γ.length = M.N.length := by rfl) (hs : ∀ env x, foldedSetIterable iter env x = pure x := by intro _ _; rfl) : WC G M F elt tg iter [cd] scope Γ Qd := by
  refine wc_if kd gl own hcp (fun ds i acc => acc.Sublist (ds.take i)) ?_ hΓ hs
  refine ⟨fun X gd σ H S hl gr pins s I => thn (h.run X gd σ H S hl gr pins s I) fun v s1 h1 => thn h1 fun itv s2 ⟨it, fp, tn, It, H1, e0, I2, T, st2, f2, S1, ds, g1, e1, k1, io, hz, h1, h2⟩ => ⟨it, fp, tn, It, H1, e0, I2, T, st2, f2, S1, ds, g1, e1, k1, io, hz, List.nil_sublist _, fun i d acc hd ja la => ?_, fun acc ja _ => ?_⟩⟩
  · refine ⟨fun hΓ X gd σ H S v hl g' hv => ((h1 d (List.mem_of_getElem? hd)).run hΓ X gd σ H S v hl g' hv).mono fun σ' H' ⟨w1, w2, Γ', w3, w4, w5, w6⟩ => ⟨w1, w2, Γ', w3, w4, w5, wt_mono w6 fun x hq => ⟨fun hxt => we_mono (hq hxt) fun y hy => ?_, fun hxf => ?_⟩⟩⟩
    · rw [hy, take_succ hd]
      exact ja.append (List.Sublist.refl _)
    · rw [take_succ hd]
      exact ja.trans (List.sublist_append_left _ _)
  · rw [List.take_length] at ja; exact h2 acc ja
end
end DW

namespace K03
open PySem PySem.Spec L2 DW
open PyProof.Rows hiding St
def topS (i : Nat) : Stmt := PySem.Challenge.pw_heldthrough_k03_fractions_and_vectors_re.main.body.getD i (.Pass ⟨0, 0, 0, 0⟩)
structure Blt (G : Gd) : Prop where
  len : G.mg "len" = none
  tuple : G.mg "tuple" = none
  int : G.mg "int" = none
  abs : G.mg "abs" = none
  range : G.mg "range" = none
  zip : G.mg "zip" = none
  repr : G.mg "repr" = none
  gcd : G.mg "gcd" = some (.builtin "math.gcd")
/-! fraction -/
abbrev s_fraction : Stmt := topS 2
abbrev N_fraction : List Str := "num" :: "den" :: "shared" :: []
abbrev M_fraction : Nm := ⟨N_fraction, [.lo, .lo, .lo], ("gcd" :: [] : List Str), defScope s_fraction⟩
theorem sc_fraction : FnScope M_fraction.N ["num", "den"] (defScope s_fraction) := ⟨rfl, rfl, rfl, by decide +kernel, rfl, by decide +kernel, by decide +kernel⟩
theorem ok_fraction : nmOk M_fraction = true := by decide +kernel
theorem r_fraction_num : Rdb M_fraction 0 "num" := ⟨rfl, ⟨_, rfl, by simp⟩, by decide +kernel, by decide +kernel⟩
theorem t_fraction_num : Sto M_fraction 0 "num" := ⟨rfl, .inl rfl⟩
theorem l_fraction_num : Lcl M_fraction 0 "num" := ⟨rfl, rfl⟩
theorem r_fraction_den : Rdb M_fraction 1 "den" := ⟨rfl, ⟨_, rfl, by simp⟩, by decide +kernel, by decide +kernel⟩
theorem t_fraction_den : Sto M_fraction 1 "den" := ⟨rfl, .inl rfl⟩
theorem l_fraction_den : Lcl M_fraction 1 "den" := ⟨rfl, rfl⟩
theorem r_fraction_shared : Rdb M_fraction 2 "shared" := ⟨rfl, ⟨_, rfl, by simp⟩, by decide +kernel, by decide +kernel⟩
theorem t_fraction_shared : Sto M_fraction 2 "shared" := ⟨rfl, .inl rfl⟩
theorem l_fraction_shared : Lcl M_fraction 2 "shared" := ⟨rfl, rfl⟩
theorem g_fraction_gcd : ("gcd" : Str) ∈ M_fraction.gl := List.Mem.head _
/-! whole -/
abbrev s_whole : Stmt := topS 3
abbrev N_whole : List Str := "integer" :: []
abbrev M_whole : Nm := ⟨N_whole, [.lo], ([] : List Str), defScope s_whole⟩
theorem sc_whole : FnScope M_whole.N ["integer"] (defScope s_whole) := ⟨rfl, rfl, rfl, by decide +kernel, rfl, by decide +kernel, by decide +kernel⟩
theorem ok_whole : nmOk M_whole = true := by decide +kernel
theorem r_whole_integer : Rdb M_whole 0 "integer" := ⟨rfl, ⟨_, rfl, by simp⟩, by decide +kernel, by decide +kernel⟩
theorem t_whole_integer : Sto M_whole 0 "integer" := ⟨rfl, .inl rfl⟩
theorem l_whole_integer : Lcl M_whole 0 "integer" := ⟨rfl, rfl⟩
/-! plus -/
abbrev s_plus : Stmt := topS 4
abbrev N_plus : List Str := "one" :: "other" :: []
abbrev M_plus : Nm := ⟨N_plus, [.lo, .lo], ("fraction" :: [] : List Str), defScope s_plus⟩
theorem sc_plus : FnScope M_plus.N ["one", "other"] (defScope s_plus) := ⟨rfl, rfl, rfl, by decide +kernel, rfl, by decide +kernel, by decide +kernel⟩
theorem ok_plus : nmOk M_plus = true := by decide +kernel
theorem r_plus_one : Rdb M_plus 0 "one" := ⟨rfl, ⟨_, rfl, by simp⟩, by decide +kernel, by decide +kernel⟩
theorem t_plus_one : Sto M_plus 0 "one" := ⟨rfl, .inl rfl⟩
theorem l_plus_one : Lcl M_plus 0 "one" := ⟨rfl, rfl⟩
theorem r_plus_other : Rdb M_plus 1 "other" := ⟨rfl, ⟨_, rfl, by simp⟩, by decide +kernel, by decide +kernel⟩
theorem t_plus_other : Sto M_plus 1 "other" := ⟨rfl, .inl rfl⟩
theorem l_plus_other : Lcl M_plus 1 "other" := ⟨rfl, rfl⟩
theorem g_plus_fraction : ("fraction" : Str) ∈ M_plus.gl := List.Mem.head _
/-! minus -/
abbrev s_minus : Stmt := topS 5
abbrev N_minus : List Str := "one" :: "other" :: []
abbrev M_minus : Nm := ⟨N_minus, [.lo, .lo], ("fraction" :: [] : List Str), defScope s_minus⟩
theorem sc_minus : FnScope M_minus.N ["one", "other"] (defScope s_minus) := ⟨rfl, rfl, rfl, by decide +kernel, rfl, by decide +kernel, by decide +kernel⟩
theorem ok_minus : nmOk M_minus = true := by decide +kernel
theorem r_minus_one : Rdb M_minus 0 "one" := ⟨rfl, ⟨_, rfl, by simp⟩, by decide +kernel, by decide +kernel⟩
theorem t_minus_one : Sto M_minus 0 "one" := ⟨rfl, .inl rfl⟩
theorem l_minus_one : Lcl M_minus 0 "one" := ⟨rfl, rfl⟩
theorem r_minus_other : Rdb M_minus 1 "other" := ⟨rfl, ⟨_, rfl, by simp⟩, by decide +kernel, by decide +kernel⟩
theorem t_minus_other : Sto M_minus 1 "other" := ⟨rfl, .inl rfl⟩
theorem l_minus_other : Lcl M_minus 1 "other" := ⟨rfl, rfl⟩
theorem g_minus_fraction : ("fraction" : Str) ∈ M_minus.gl := List.Mem.head _
/-! times -/
abbrev s_times : Stmt := topS 6
abbrev N_times : List Str := "one" :: "other" :: []
abbrev M_times : Nm := ⟨N_times, [.lo, .lo], ("fraction" :: [] : List Str), defScope s_times⟩
theorem sc_times : FnScope M_times.N ["one", "other"] (defScope s_times) := ⟨rfl, rfl, rfl, by decide +kernel, rfl, by decide +kernel, by decide +kernel⟩
theorem ok_times : nmOk M_times = true := by decide +kernel
theorem r_times_one : Rdb M_times 0 "one" := ⟨rfl, ⟨_, rfl, by simp⟩, by decide +kernel, by decide +kernel⟩
theorem t_times_one : Sto M_times 0 "one" := ⟨rfl, .inl rfl⟩
theorem l_times_one : Lcl M_times 0 "one" := ⟨rfl, rfl⟩
theorem r_times_other : Rdb M_times 1 "other" := ⟨rfl, ⟨_, rfl, by simp⟩, by decide +kernel, by decide +kernel⟩
theorem t_times_other : Sto M_times 1 "other" := ⟨rfl, .inl rfl⟩
theorem l_times_other : Lcl M_times 1 "other" := ⟨rfl, rfl⟩
theorem g_times_fraction : ("fraction" : Str) ∈ M_times.gl := List.Mem.head _
/-! over -/
abbrev s_over : Stmt := topS 7
abbrev N_over : List Str := "one" :: "other" :: []
abbrev M_over : Nm := ⟨N_over, [.lo, .lo], ("fraction" :: [] : List Str), defScope s_over⟩
theorem sc_over : FnScope M_over.N ["one", "other"] (defScope s_over) := ⟨rfl, rfl, rfl, by decide +kernel, rfl, by decide +kernel, by decide +kernel⟩
theorem ok_over : nmOk M_over = true := by decide +kernel
theorem r_over_one : Rdb M_over 0 "one" := ⟨rfl, ⟨_, rfl, by simp⟩, by decide +kernel, by decide +kernel⟩
theorem t_over_one : Sto M_over 0 "one" := ⟨rfl, .inl rfl⟩
theorem l_over_one : Lcl M_over 0 "one" := ⟨rfl, rfl⟩
theorem r_over_other : Rdb M_over 1 "other" := ⟨rfl, ⟨_, rfl, by simp⟩, by decide +kernel, by decide +kernel⟩
theorem t_over_other : Sto M_over 1 "other" := ⟨rfl, .inl rfl⟩
theorem l_over_other : Lcl M_over 1 "other" := ⟨rfl, rfl⟩
theorem g_over_fraction : ("fraction" : Str) ∈ M_over.gl := List.Mem.head _
/-! is_less -/
abbrev s_is_less : Stmt := topS 8
abbrev N_is_less : List Str := "one" :: "other" :: []
abbrev M_is_less : Nm := ⟨N_is_less, [.lo, .lo], ([] : List Str), defScope s_is_less⟩
theorem sc_is_less : FnScope M_is_less.N ["one", "other"] (defScope s_is_less) := ⟨rfl, rfl, rfl, by decide +kernel, rfl, by decide +kernel, by decide +kernel⟩
theorem ok_is_less : nmOk M_is_less = true := by decide +kernel
theorem r_is_less_one : Rdb M_is_less 0 "one" := ⟨rfl, ⟨_, rfl, by simp⟩, by decide +kernel, by decide +kernel⟩
theorem t_is_less_one : Sto M_is_less 0 "one" := ⟨rfl, .inl rfl⟩
theorem l_is_less_one : Lcl M_is_less 0 "one" := ⟨rfl, rfl⟩
theorem r_is_less_other : Rdb M_is_less 1 "other" := ⟨rfl, ⟨_, rfl, by simp⟩, by decide +kernel, by decide +kernel⟩
theorem t_is_less_other : Sto M_is_less 1 "other" := ⟨rfl, .inl rfl⟩
theorem l_is_less_other : Lcl M_is_less 1 "other" := ⟨rfl, rfl⟩
/-! is_at_most -/
abbrev s_is_at_most : Stmt := topS 9
abbrev N_is_at_most : List Str := "one" :: "other" :: []
abbrev M_is_at_most : Nm := ⟨N_is_at_most, [.lo, .lo], ([] : List Str), defScope s_is_at_most⟩
theorem sc_is_at_most : FnScope M_is_at_most.N ["one", "other"] (defScope s_is_at_most) := ⟨rfl, rfl, rfl, by decide +kernel, rfl, by decide +kernel, by decide +kernel⟩
theorem ok_is_at_most : nmOk M_is_at_most = true := by decide +kernel
theorem r_is_at_most_one : Rdb M_is_at_most 0 "one" := ⟨rfl, ⟨_, rfl, by simp⟩, by decide +kernel, by decide +kernel⟩
theorem t_is_at_most_one : Sto M_is_at_most 0 "one" := ⟨rfl, .inl rfl⟩
theorem l_is_at_most_one : Lcl M_is_at_most 0 "one" := ⟨rfl, rfl⟩
theorem r_is_at_most_other : Rdb M_is_at_most 1 "other" := ⟨rfl, ⟨_, rfl, by simp⟩, by decide +kernel, by decide +kernel⟩
theorem t_is_at_most_other : Sto M_is_at_most 1 "other" := ⟨rfl, .inl rfl⟩
theorem l_is_at_most_other : Lcl M_is_at_most 1 "other" := ⟨rfl, rfl⟩
/-! sign_of -/
abbrev s_sign_of : Stmt := topS 10
abbrev N_sign_of : List Str := "one" :: []
abbrev M_sign_of : Nm := ⟨N_sign_of, [.lo], ("int" :: [] : List Str), defScope s_sign_of⟩
theorem sc_sign_of : FnScope M_sign_of.N ["one"] (defScope s_sign_of) := ⟨rfl, rfl, rfl, by decide +kernel, rfl, by decide +kernel, by decide +kernel⟩
theorem ok_sign_of : nmOk M_sign_of = true := by decide +kernel
theorem r_sign_of_one : Rdb M_sign_of 0 "one" := ⟨rfl, ⟨_, rfl, by simp⟩, by decide +kernel, by decide +kernel⟩
theorem t_sign_of_one : Sto M_sign_of 0 "one" := ⟨rfl, .inl rfl⟩
theorem l_sign_of_one : Lcl M_sign_of 0 "one" := ⟨rfl, rfl⟩
theorem g_sign_of_int : ("int" : Str) ∈ M_sign_of.gl := List.Mem.head _
/-! floor_of -/
abbrev s_floor_of : Stmt := topS 11
abbrev N_floor_of : List Str := "one" :: []
abbrev M_floor_of : Nm := ⟨N_floor_of, [.lo], ([] : List Str), defScope s_floor_of⟩
theorem sc_floor_of : FnScope M_floor_of.N ["one"] (defScope s_floor_of) := ⟨rfl, rfl, rfl, by decide +kernel, rfl, by decide +kernel, by decide +kernel⟩
theorem ok_floor_of : nmOk M_floor_of = true := by decide +kernel
theorem r_floor_of_one : Rdb M_floor_of 0 "one" := ⟨rfl, ⟨_, rfl, by simp⟩, by decide +kernel, by decide +kernel⟩
theorem t_floor_of_one : Sto M_floor_of 0 "one" := ⟨rfl, .inl rfl⟩
theorem l_floor_of_one : Lcl M_floor_of 0 "one" := ⟨rfl, rfl⟩
/-! nought -/
abbrev s_nought : Stmt := topS 12
abbrev N_nought : List Str := "frame" :: []
abbrev M_nought : Nm := ⟨N_nought, [.lo], ("len" :: [] : List Str), defScope s_nought⟩
theorem sc_nought : FnScope M_nought.N ["frame"] (defScope s_nought) := ⟨rfl, rfl, rfl, by decide +kernel, rfl, by decide +kernel, by decide +kernel⟩
theorem ok_nought : nmOk M_nought = true := by decide +kernel
theorem r_nought_frame : Rdb M_nought 0 "frame" := ⟨rfl, ⟨_, rfl, by simp⟩, by decide +kernel, by decide +kernel⟩
theorem t_nought_frame : Sto M_nought 0 "frame" := ⟨rfl, .inl rfl⟩
theorem l_nought_frame : Lcl M_nought 0 "frame" := ⟨rfl, rfl⟩
theorem g_nought_len : ("len" : Str) ∈ M_nought.gl := List.Mem.head _
/-! added -/
abbrev s_added : Stmt := topS 13
abbrev N_added : List Str := "one" :: "other" :: "mine" :: "its" :: []
abbrev M_added : Nm := ⟨N_added, [.lo, .lo, .no, .no], ("tuple" :: "zip" :: [] : List Str), defScope s_added⟩
theorem sc_added : FnScope M_added.N ["one", "other"] (defScope s_added) := ⟨rfl, rfl, rfl, by decide +kernel, rfl, by decide +kernel, by decide +kernel⟩
theorem ok_added : nmOk M_added = true := by decide +kernel
theorem r_added_one : Rdb M_added 0 "one" := ⟨rfl, ⟨_, rfl, by simp⟩, by decide +kernel, by decide +kernel⟩
theorem t_added_one : Sto M_added 0 "one" := ⟨rfl, .inl rfl⟩
theorem l_added_one : Lcl M_added 0 "one" := ⟨rfl, rfl⟩
theorem r_added_other : Rdb M_added 1 "other" := ⟨rfl, ⟨_, rfl, by simp⟩, by decide +kernel, by decide +kernel⟩
theorem t_added_other : Sto M_added 1 "other" := ⟨rfl, .inl rfl⟩
theorem l_added_other : Lcl M_added 1 "other" := ⟨rfl, rfl⟩
theorem g_added_tuple : ("tuple" : Str) ∈ M_added.gl := List.Mem.head _
theorem g_added_zip : ("zip" : Str) ∈ M_added.gl := List.Mem.tail _ (List.Mem.head _)
abbrev kd_added_0 : List Kd := [.no, .no, .lo, .lo]
abbrev gl_added_0 : List Str := "plus" :: []
abbrev own_added_0 : List (Str × Nat) := [("mine", 2), ("its", 3)]
theorem r_added_0_mine (s0 : Scope) : Rdb (blkNm M_added s0 kd_added_0 gl_added_0) 2 "mine" := ⟨rfl, ⟨_, rfl, by simp⟩, by decide +kernel, by decide +kernel⟩
theorem t_added_0_mine (s0 : Scope) : Sto (blkNm M_added s0 kd_added_0 gl_added_0) 2 "mine" := ⟨rfl, .inl rfl⟩
theorem r_added_0_its (s0 : Scope) : Rdb (blkNm M_added s0 kd_added_0 gl_added_0) 3 "its" := ⟨rfl, ⟨_, rfl, by simp⟩, by decide +kernel, by decide +kernel⟩
theorem t_added_0_its (s0 : Scope) : Sto (blkNm M_added s0 kd_added_0 gl_added_0) 3 "its" := ⟨rfl, .inl rfl⟩
theorem g_added_0_plus (s0 : Scope) : ("plus" : Str) ∈ (blkNm M_added s0 kd_added_0 gl_added_0).gl := List.Mem.head _
/-! less -/
abbrev s_less : Stmt := topS 14
abbrev N_less : List Str := "one" :: "other" :: "mine" :: "its" :: []
abbrev M_less : Nm := ⟨N_less, [.lo, .lo, .no, .no], ("tuple" :: "zip" :: [] : List Str), defScope s_less⟩
theorem sc_less : FnScope M_less.N ["one", "other"] (defScope s_less) := ⟨rfl, rfl, rfl, by decide +kernel, rfl, by decide +kernel, by decide +kernel⟩
theorem ok_less : nmOk M_less = true := by decide +kernel
theorem r_less_one : Rdb M_less 0 "one" := ⟨rfl, ⟨_, rfl, by simp⟩, by decide +kernel, by decide +kernel⟩
theorem t_less_one : Sto M_less 0 "one" := ⟨rfl, .inl rfl⟩
theorem l_less_one : Lcl M_less 0 "one" := ⟨rfl, rfl⟩
theorem r_less_other : Rdb M_less 1 "other" := ⟨rfl, ⟨_, rfl, by simp⟩, by decide +kernel, by decide +kernel⟩
theorem t_less_other : Sto M_less 1 "other" := ⟨rfl, .inl rfl⟩
theorem l_less_other : Lcl M_less 1 "other" := ⟨rfl, rfl⟩
theorem g_less_tuple : ("tuple" : Str) ∈ M_less.gl := List.Mem.head _
theorem g_less_zip : ("zip" : Str) ∈ M_less.gl := List.Mem.tail _ (List.Mem.head _)
abbrev kd_less_0 : List Kd := [.no, .no, .lo, .lo]
abbrev gl_less_0 : List Str := "minus" :: []
abbrev own_less_0 : List (Str × Nat) := [("mine", 2), ("its", 3)]
theorem r_less_0_mine (s0 : Scope) : Rdb (blkNm M_less s0 kd_less_0 gl_less_0) 2 "mine" := ⟨rfl, ⟨_, rfl, by simp⟩, by decide +kernel, by decide +kernel⟩
theorem t_less_0_mine (s0 : Scope) : Sto (blkNm M_less s0 kd_less_0 gl_less_0) 2 "mine" := ⟨rfl, .inl rfl⟩
theorem r_less_0_its (s0 : Scope) : Rdb (blkNm M_less s0 kd_less_0 gl_less_0) 3 "its" := ⟨rfl, ⟨_, rfl, by simp⟩, by decide +kernel, by decide +kernel⟩
theorem t_less_0_its (s0 : Scope) : Sto (blkNm M_less s0 kd_less_0 gl_less_0) 3 "its" := ⟨rfl, .inl rfl⟩
theorem g_less_0_minus (s0 : Scope) : ("minus" : Str) ∈ (blkNm M_less s0 kd_less_0 gl_less_0).gl := List.Mem.head _
/-! multiple -/
abbrev s_multiple : Stmt := topS 15
abbrev N_multiple : List Str := "share" :: "vector" :: "number" :: []
abbrev M_multiple : Nm := ⟨N_multiple, [.ce, .lo, .no], ("tuple" :: [] : List Str), defScope s_multiple⟩
theorem sc_multiple : FnScope M_multiple.N ["share", "vector"] (defScope s_multiple) := ⟨rfl, rfl, rfl, by decide +kernel, rfl, by decide +kernel, by decide +kernel⟩
theorem ok_multiple : nmOk M_multiple = true := by decide +kernel
theorem r_multiple_share : Rdb M_multiple 0 "share" := ⟨rfl, ⟨_, rfl, by simp⟩, by decide +kernel, by decide +kernel⟩
theorem t_multiple_share : Sto M_multiple 0 "share" := ⟨rfl, .inr rfl⟩
theorem r_multiple_vector : Rdb M_multiple 1 "vector" := ⟨rfl, ⟨_, rfl, by simp⟩, by decide +kernel, by decide +kernel⟩
theorem t_multiple_vector : Sto M_multiple 1 "vector" := ⟨rfl, .inl rfl⟩
theorem l_multiple_vector : Lcl M_multiple 1 "vector" := ⟨rfl, rfl⟩
theorem g_multiple_tuple : ("tuple" : Str) ∈ M_multiple.gl := List.Mem.head _
abbrev kd_multiple_0 : List Kd := [.rd, .no, .lo]
abbrev gl_multiple_0 : List Str := "times" :: []
abbrev own_multiple_0 : List (Str × Nat) := [("number", 2)]
theorem r_multiple_0_share (s0 : Scope) : Rdb (blkNm M_multiple s0 kd_multiple_0 gl_multiple_0) 0 "share" := ⟨rfl, ⟨_, rfl, by simp⟩, by decide +kernel, by decide +kernel⟩
theorem r_multiple_0_number (s0 : Scope) : Rdb (blkNm M_multiple s0 kd_multiple_0 gl_multiple_0) 2 "number" := ⟨rfl, ⟨_, rfl, by simp⟩, by decide +kernel, by decide +kernel⟩
theorem t_multiple_0_number (s0 : Scope) : Sto (blkNm M_multiple s0 kd_multiple_0 gl_multiple_0) 2 "number" := ⟨rfl, .inl rfl⟩
theorem g_multiple_0_times (s0 : Scope) : ("times" : Str) ∈ (blkNm M_multiple s0 kd_multiple_0 gl_multiple_0).gl := List.Mem.head _
/-! vector_of -/
abbrev s_vector_of : Stmt := topS 16
abbrev N_vector_of : List Str := "numbers" :: "number" :: []
abbrev M_vector_of : Nm := ⟨N_vector_of, [.lo, .no], ("tuple" :: [] : List Str), defScope s_vector_of⟩
theorem sc_vector_of : FnScope M_vector_of.N ["numbers"] (defScope s_vector_of) := ⟨rfl, rfl, rfl, by decide +kernel, rfl, by decide +kernel, by decide +kernel⟩
theorem ok_vector_of : nmOk M_vector_of = true := by decide +kernel
theorem r_vector_of_numbers : Rdb M_vector_of 0 "numbers" := ⟨rfl, ⟨_, rfl, by simp⟩, by decide +kernel, by decide +kernel⟩
theorem t_vector_of_numbers : Sto M_vector_of 0 "numbers" := ⟨rfl, .inl rfl⟩
theorem l_vector_of_numbers : Lcl M_vector_of 0 "numbers" := ⟨rfl, rfl⟩
theorem g_vector_of_tuple : ("tuple" : Str) ∈ M_vector_of.gl := List.Mem.head _
abbrev kd_vector_of_0 : List Kd := [.no, .lo]
abbrev gl_vector_of_0 : List Str := []
abbrev own_vector_of_0 : List (Str × Nat) := [("number", 1)]
theorem r_vector_of_0_number (s0 : Scope) : Rdb (blkNm M_vector_of s0 kd_vector_of_0 gl_vector_of_0) 1 "number" := ⟨rfl, ⟨_, rfl, by simp⟩, by decide +kernel, by decide +kernel⟩
theorem t_vector_of_0_number (s0 : Scope) : Sto (blkNm M_vector_of s0 kd_vector_of_0 gl_vector_of_0) 1 "number" := ⟨rfl, .inl rfl⟩
/-! law_bag -/
abbrev s_law_bag : Stmt := topS 18
abbrev N_law_bag : List Str := "script" :: "cell" :: []
abbrev M_law_bag : Nm := ⟨N_law_bag, [.lo, .no], ([] : List Str), defScope s_law_bag⟩
theorem sc_law_bag : FnScope M_law_bag.N ["script"] (defScope s_law_bag) := ⟨rfl, rfl, rfl, by decide +kernel, rfl, by decide +kernel, by decide +kernel⟩
theorem ok_law_bag : nmOk M_law_bag = true := by decide +kernel
theorem r_law_bag_script : Rdb M_law_bag 0 "script" := ⟨rfl, ⟨_, rfl, by simp⟩, by decide +kernel, by decide +kernel⟩
theorem t_law_bag_script : Sto M_law_bag 0 "script" := ⟨rfl, .inl rfl⟩
theorem l_law_bag_script : Lcl M_law_bag 0 "script" := ⟨rfl, rfl⟩
abbrev kd_law_bag_0 : List Kd := [.no, .lo]
abbrev gl_law_bag_0 : List Str := "abs" :: []
abbrev own_law_bag_0 : List (Str × Nat) := [("cell", 1)]
theorem r_law_bag_0_cell (s0 : Scope) : Rdb (blkNm M_law_bag s0 kd_law_bag_0 gl_law_bag_0) 1 "cell" := ⟨rfl, ⟨_, rfl, by simp⟩, by decide +kernel, by decide +kernel⟩
theorem t_law_bag_0_cell (s0 : Scope) : Sto (blkNm M_law_bag s0 kd_law_bag_0 gl_law_bag_0) 1 "cell" := ⟨rfl, .inl rfl⟩
theorem g_law_bag_0_abs (s0 : Scope) : ("abs" : Str) ∈ (blkNm M_law_bag s0 kd_law_bag_0 gl_law_bag_0).gl := List.Mem.head _
/-! law_take -/
abbrev s_law_take : Stmt := topS 19
abbrev N_law_take : List Str := "bag" :: "many" :: "cell" :: "stirred" :: "drawn" :: "begin" :: "second" :: []
abbrev M_law_take : Nm := ⟨N_law_take, [.lo, .lo, .lo, .lo, .lo, .lo, .lo], ("int" :: [] : List Str), defScope s_law_take⟩
theorem sc_law_take : FnScope M_law_take.N ["bag", "many"] (defScope s_law_take) := ⟨rfl, rfl, rfl, by decide +kernel, rfl, by decide +kernel, by decide +kernel⟩
theorem ok_law_take : nmOk M_law_take = true := by decide +kernel
theorem r_law_take_bag : Rdb M_law_take 0 "bag" := ⟨rfl, ⟨_, rfl, by simp⟩, by decide +kernel, by decide +kernel⟩
theorem t_law_take_bag : Sto M_law_take 0 "bag" := ⟨rfl, .inl rfl⟩
theorem l_law_take_bag : Lcl M_law_take 0 "bag" := ⟨rfl, rfl⟩
theorem r_law_take_many : Rdb M_law_take 1 "many" := ⟨rfl, ⟨_, rfl, by simp⟩, by decide +kernel, by decide +kernel⟩
theorem t_law_take_many : Sto M_law_take 1 "many" := ⟨rfl, .inl rfl⟩
theorem l_law_take_many : Lcl M_law_take 1 "many" := ⟨rfl, rfl⟩
theorem r_law_take_cell : Rdb M_law_take 2 "cell" := ⟨rfl, ⟨_, rfl, by simp⟩, by decide +kernel, by decide +kernel⟩
theorem t_law_take_cell : Sto M_law_take 2 "cell" := ⟨rfl, .inl rfl⟩
theorem l_law_take_cell : Lcl M_law_take 2 "cell" := ⟨rfl, rfl⟩
theorem r_law_take_stirred : Rdb M_law_take 3 "stirred" := ⟨rfl, ⟨_, rfl, by simp⟩, by decide +kernel, by decide +kernel⟩
theorem t_law_take_stirred : Sto M_law_take 3 "stirred" := ⟨rfl, .inl rfl⟩
theorem l_law_take_stirred : Lcl M_law_take 3 "stirred" := ⟨rfl, rfl⟩
theorem r_law_take_drawn : Rdb M_law_take 4 "drawn" := ⟨rfl, ⟨_, rfl, by simp⟩, by decide +kernel, by decide +kernel⟩
theorem t_law_take_drawn : Sto M_law_take 4 "drawn" := ⟨rfl, .inl rfl⟩
theorem l_law_take_drawn : Lcl M_law_take 4 "drawn" := ⟨rfl, rfl⟩
theorem r_law_take_begin : Rdb M_law_take 5 "begin" := ⟨rfl, ⟨_, rfl, by simp⟩, by decide +kernel, by decide +kernel⟩
theorem t_law_take_begin : Sto M_law_take 5 "begin" := ⟨rfl, .inl rfl⟩
theorem l_law_take_begin : Lcl M_law_take 5 "begin" := ⟨rfl, rfl⟩
theorem r_law_take_second : Rdb M_law_take 6 "second" := ⟨rfl, ⟨_, rfl, by simp⟩, by decide +kernel, by decide +kernel⟩
theorem t_law_take_second : Sto M_law_take 6 "second" := ⟨rfl, .inl rfl⟩
theorem l_law_take_second : Lcl M_law_take 6 "second" := ⟨rfl, rfl⟩
theorem g_law_take_int : ("int" : Str) ∈ M_law_take.gl := List.Mem.head _
/-! law_some -/
abbrev s_law_some : Stmt := topS 20
abbrev N_law_some : List Str := "bag" :: "things" :: []
abbrev M_law_some : Nm := ⟨N_law_some, [.lo, .lo], ("_law_take" :: "len" :: [] : List Str), defScope s_law_some⟩
theorem sc_law_some : FnScope M_law_some.N ["bag", "things"] (defScope s_law_some) := ⟨rfl, rfl, rfl, by decide +kernel, rfl, by decide +kernel, by decide +kernel⟩
theorem ok_law_some : nmOk M_law_some = true := by decide +kernel
theorem r_law_some_bag : Rdb M_law_some 0 "bag" := ⟨rfl, ⟨_, rfl, by simp⟩, by decide +kernel, by decide +kernel⟩
theorem t_law_some_bag : Sto M_law_some 0 "bag" := ⟨rfl, .inl rfl⟩
theorem l_law_some_bag : Lcl M_law_some 0 "bag" := ⟨rfl, rfl⟩
theorem r_law_some_things : Rdb M_law_some 1 "things" := ⟨rfl, ⟨_, rfl, by simp⟩, by decide +kernel, by decide +kernel⟩
theorem t_law_some_things : Sto M_law_some 1 "things" := ⟨rfl, .inl rfl⟩
theorem l_law_some_things : Lcl M_law_some 1 "things" := ⟨rfl, rfl⟩
theorem g_law_some__law_take : ("_law_take" : Str) ∈ M_law_some.gl := List.Mem.head _
theorem g_law_some_len : ("len" : Str) ∈ M_law_some.gl := List.Mem.tail _ (List.Mem.head _)
/-! law_mixed -/
abbrev s_law_mixed : Stmt := topS 21
abbrev N_law_mixed : List Str := "bag" :: "things" :: "found" :: "thing" :: []
abbrev M_law_mixed : Nm := ⟨N_law_mixed, [.lo, .lo, .lo, .lo], ("_law_take" :: "len" :: [] : List Str), defScope s_law_mixed⟩
theorem sc_law_mixed : FnScope M_law_mixed.N ["bag", "things"] (defScope s_law_mixed) := ⟨rfl, rfl, rfl, by decide +kernel, rfl, by decide +kernel, by decide +kernel⟩
theorem ok_law_mixed : nmOk M_law_mixed = true := by decide +kernel
theorem r_law_mixed_bag : Rdb M_law_mixed 0 "bag" := ⟨rfl, ⟨_, rfl, by simp⟩, by decide +kernel, by decide +kernel⟩
theorem t_law_mixed_bag : Sto M_law_mixed 0 "bag" := ⟨rfl, .inl rfl⟩
theorem l_law_mixed_bag : Lcl M_law_mixed 0 "bag" := ⟨rfl, rfl⟩
theorem r_law_mixed_things : Rdb M_law_mixed 1 "things" := ⟨rfl, ⟨_, rfl, by simp⟩, by decide +kernel, by decide +kernel⟩
theorem t_law_mixed_things : Sto M_law_mixed 1 "things" := ⟨rfl, .inl rfl⟩
theorem l_law_mixed_things : Lcl M_law_mixed 1 "things" := ⟨rfl, rfl⟩
theorem r_law_mixed_found : Rdb M_law_mixed 2 "found" := ⟨rfl, ⟨_, rfl, by simp⟩, by decide +kernel, by decide +kernel⟩
theorem t_law_mixed_found : Sto M_law_mixed 2 "found" := ⟨rfl, .inl rfl⟩
theorem l_law_mixed_found : Lcl M_law_mixed 2 "found" := ⟨rfl, rfl⟩
theorem r_law_mixed_thing : Rdb M_law_mixed 3 "thing" := ⟨rfl, ⟨_, rfl, by simp⟩, by decide +kernel, by decide +kernel⟩
theorem t_law_mixed_thing : Sto M_law_mixed 3 "thing" := ⟨rfl, .inl rfl⟩
theorem l_law_mixed_thing : Lcl M_law_mixed 3 "thing" := ⟨rfl, rfl⟩
theorem g_law_mixed__law_take : ("_law_take" : Str) ∈ M_law_mixed.gl := List.Mem.head _
theorem g_law_mixed_len : ("len" : Str) ∈ M_law_mixed.gl := List.Mem.tail _ (List.Mem.head _)
/-! law_alike -/
abbrev s_law_alike : Stmt := topS 22
abbrev N_law_alike : List Str := "found" :: "due" :: []
abbrev M_law_alike : Nm := ⟨N_law_alike, [.lo, .lo], ("repr" :: [] : List Str), defScope s_law_alike⟩
theorem sc_law_alike : FnScope M_law_alike.N ["found", "due"] (defScope s_law_alike) := ⟨rfl, rfl, rfl, by decide +kernel, rfl, by decide +kernel, by decide +kernel⟩
theorem ok_law_alike : nmOk M_law_alike = true := by decide +kernel
theorem r_law_alike_found : Rdb M_law_alike 0 "found" := ⟨rfl, ⟨_, rfl, by simp⟩, by decide +kernel, by decide +kernel⟩
theorem t_law_alike_found : Sto M_law_alike 0 "found" := ⟨rfl, .inl rfl⟩
theorem l_law_alike_found : Lcl M_law_alike 0 "found" := ⟨rfl, rfl⟩
theorem r_law_alike_due : Rdb M_law_alike 1 "due" := ⟨rfl, ⟨_, rfl, by simp⟩, by decide +kernel, by decide +kernel⟩
theorem t_law_alike_due : Sto M_law_alike 1 "due" := ⟨rfl, .inl rfl⟩
theorem l_law_alike_due : Lcl M_law_alike 1 "due" := ⟨rfl, rfl⟩
theorem g_law_alike_repr : ("repr" : Str) ∈ M_law_alike.gl := List.Mem.head _
/-! law_gcd -/
abbrev s_law_gcd : Stmt := topS 23
abbrev N_law_gcd : List Str := "one" :: "other" :: []
abbrev M_law_gcd : Nm := ⟨N_law_gcd, [.lo, .lo], ("int" :: [] : List Str), defScope s_law_gcd⟩
theorem sc_law_gcd : FnScope M_law_gcd.N ["one", "other"] (defScope s_law_gcd) := ⟨rfl, rfl, rfl, by decide +kernel, rfl, by decide +kernel, by decide +kernel⟩
theorem ok_law_gcd : nmOk M_law_gcd = true := by decide +kernel
theorem r_law_gcd_one : Rdb M_law_gcd 0 "one" := ⟨rfl, ⟨_, rfl, by simp⟩, by decide +kernel, by decide +kernel⟩
theorem t_law_gcd_one : Sto M_law_gcd 0 "one" := ⟨rfl, .inl rfl⟩
theorem l_law_gcd_one : Lcl M_law_gcd 0 "one" := ⟨rfl, rfl⟩
theorem r_law_gcd_other : Rdb M_law_gcd 1 "other" := ⟨rfl, ⟨_, rfl, by simp⟩, by decide +kernel, by decide +kernel⟩
theorem t_law_gcd_other : Sto M_law_gcd 1 "other" := ⟨rfl, .inl rfl⟩
theorem l_law_gcd_other : Lcl M_law_gcd 1 "other" := ⟨rfl, rfl⟩
theorem g_law_gcd_int : ("int" : Str) ∈ M_law_gcd.gl := List.Mem.head _
/-! law_fr -/
abbrev s_law_fr : Stmt := topS 24
abbrev N_law_fr : List Str := "num" :: "den" :: "common" :: []
abbrev M_law_fr : Nm := ⟨N_law_fr, [.lo, .lo, .lo], ("_law_gcd" :: "abs" :: "int" :: [] : List Str), defScope s_law_fr⟩
theorem sc_law_fr : FnScope M_law_fr.N ["num", "den"] (defScope s_law_fr) := ⟨rfl, rfl, rfl, by decide +kernel, rfl, by decide +kernel, by decide +kernel⟩
theorem ok_law_fr : nmOk M_law_fr = true := by decide +kernel
theorem r_law_fr_num : Rdb M_law_fr 0 "num" := ⟨rfl, ⟨_, rfl, by simp⟩, by decide +kernel, by decide +kernel⟩
theorem t_law_fr_num : Sto M_law_fr 0 "num" := ⟨rfl, .inl rfl⟩
theorem l_law_fr_num : Lcl M_law_fr 0 "num" := ⟨rfl, rfl⟩
theorem r_law_fr_den : Rdb M_law_fr 1 "den" := ⟨rfl, ⟨_, rfl, by simp⟩, by decide +kernel, by decide +kernel⟩
theorem t_law_fr_den : Sto M_law_fr 1 "den" := ⟨rfl, .inl rfl⟩
theorem l_law_fr_den : Lcl M_law_fr 1 "den" := ⟨rfl, rfl⟩
theorem r_law_fr_common : Rdb M_law_fr 2 "common" := ⟨rfl, ⟨_, rfl, by simp⟩, by decide +kernel, by decide +kernel⟩
theorem t_law_fr_common : Sto M_law_fr 2 "common" := ⟨rfl, .inl rfl⟩
theorem l_law_fr_common : Lcl M_law_fr 2 "common" := ⟨rfl, rfl⟩
theorem g_law_fr__law_gcd : ("_law_gcd" : Str) ∈ M_law_fr.gl := List.Mem.head _
theorem g_law_fr_abs : ("abs" : Str) ∈ M_law_fr.gl := List.Mem.tail _ (List.Mem.head _)
theorem g_law_fr_int : ("int" : Str) ∈ M_law_fr.gl := List.Mem.tail _ (List.Mem.tail _ (List.Mem.head _))
/-! law_plus -/
abbrev s_law_plus : Stmt := topS 25
abbrev N_law_plus : List Str := "one" :: "other" :: []
abbrev M_law_plus : Nm := ⟨N_law_plus, [.lo, .lo], ("_law_fr" :: [] : List Str), defScope s_law_plus⟩
theorem sc_law_plus : FnScope M_law_plus.N ["one", "other"] (defScope s_law_plus) := ⟨rfl, rfl, rfl, by decide +kernel, rfl, by decide +kernel, by decide +kernel⟩
theorem ok_law_plus : nmOk M_law_plus = true := by decide +kernel
theorem r_law_plus_one : Rdb M_law_plus 0 "one" := ⟨rfl, ⟨_, rfl, by simp⟩, by decide +kernel, by decide +kernel⟩
theorem t_law_plus_one : Sto M_law_plus 0 "one" := ⟨rfl, .inl rfl⟩
theorem l_law_plus_one : Lcl M_law_plus 0 "one" := ⟨rfl, rfl⟩
theorem r_law_plus_other : Rdb M_law_plus 1 "other" := ⟨rfl, ⟨_, rfl, by simp⟩, by decide +kernel, by decide +kernel⟩
theorem t_law_plus_other : Sto M_law_plus 1 "other" := ⟨rfl, .inl rfl⟩
theorem l_law_plus_other : Lcl M_law_plus 1 "other" := ⟨rfl, rfl⟩
theorem g_law_plus__law_fr : ("_law_fr" : Str) ∈ M_law_plus.gl := List.Mem.head _
/-! law_minus -/
abbrev s_law_minus : Stmt := topS 26
abbrev N_law_minus : List Str := "one" :: "other" :: []
abbrev M_law_minus : Nm := ⟨N_law_minus, [.lo, .lo], ("_law_fr" :: [] : List Str), defScope s_law_minus⟩
theorem sc_law_minus : FnScope M_law_minus.N ["one", "other"] (defScope s_law_minus) := ⟨rfl, rfl, rfl, by decide +kernel, rfl, by decide +kernel, by decide +kernel⟩
theorem ok_law_minus : nmOk M_law_minus = true := by decide +kernel
theorem r_law_minus_one : Rdb M_law_minus 0 "one" := ⟨rfl, ⟨_, rfl, by simp⟩, by decide +kernel, by decide +kernel⟩
theorem t_law_minus_one : Sto M_law_minus 0 "one" := ⟨rfl, .inl rfl⟩
theorem l_law_minus_one : Lcl M_law_minus 0 "one" := ⟨rfl, rfl⟩
theorem r_law_minus_other : Rdb M_law_minus 1 "other" := ⟨rfl, ⟨_, rfl, by simp⟩, by decide +kernel, by decide +kernel⟩
theorem t_law_minus_other : Sto M_law_minus 1 "other" := ⟨rfl, .inl rfl⟩
theorem l_law_minus_other : Lcl M_law_minus 1 "other" := ⟨rfl, rfl⟩
theorem g_law_minus__law_fr : ("_law_fr" : Str) ∈ M_law_minus.gl := List.Mem.head _
/-! law_times -/
abbrev s_law_times : Stmt := topS 27
abbrev N_law_times : List Str := "one" :: "other" :: []
abbrev M_law_times : Nm := ⟨N_law_times, [.lo, .lo], ("_law_fr" :: [] : List Str), defScope s_law_times⟩
theorem sc_law_times : FnScope M_law_times.N ["one", "other"] (defScope s_law_times) := ⟨rfl, rfl, rfl, by decide +kernel, rfl, by decide +kernel, by decide +kernel⟩
theorem ok_law_times : nmOk M_law_times = true := by decide +kernel
theorem r_law_times_one : Rdb M_law_times 0 "one" := ⟨rfl, ⟨_, rfl, by simp⟩, by decide +kernel, by decide +kernel⟩
theorem t_law_times_one : Sto M_law_times 0 "one" := ⟨rfl, .inl rfl⟩
theorem l_law_times_one : Lcl M_law_times 0 "one" := ⟨rfl, rfl⟩
theorem r_law_times_other : Rdb M_law_times 1 "other" := ⟨rfl, ⟨_, rfl, by simp⟩, by decide +kernel, by decide +kernel⟩
theorem t_law_times_other : Sto M_law_times 1 "other" := ⟨rfl, .inl rfl⟩
theorem l_law_times_other : Lcl M_law_times 1 "other" := ⟨rfl, rfl⟩
theorem g_law_times__law_fr : ("_law_fr" : Str) ∈ M_law_times.gl := List.Mem.head _
/-! law_over -/
abbrev s_law_over : Stmt := topS 28
abbrev N_law_over : List Str := "one" :: "other" :: []
abbrev M_law_over : Nm := ⟨N_law_over, [.lo, .lo], ("_law_fr" :: [] : List Str), defScope s_law_over⟩
theorem sc_law_over : FnScope M_law_over.N ["one", "other"] (defScope s_law_over) := ⟨rfl, rfl, rfl, by decide +kernel, rfl, by decide +kernel, by decide +kernel⟩
theorem ok_law_over : nmOk M_law_over = true := by decide +kernel
theorem r_law_over_one : Rdb M_law_over 0 "one" := ⟨rfl, ⟨_, rfl, by simp⟩, by decide +kernel, by decide +kernel⟩
theorem t_law_over_one : Sto M_law_over 0 "one" := ⟨rfl, .inl rfl⟩
theorem l_law_over_one : Lcl M_law_over 0 "one" := ⟨rfl, rfl⟩
theorem r_law_over_other : Rdb M_law_over 1 "other" := ⟨rfl, ⟨_, rfl, by simp⟩, by decide +kernel, by decide +kernel⟩
theorem t_law_over_other : Sto M_law_over 1 "other" := ⟨rfl, .inl rfl⟩
theorem l_law_over_other : Lcl M_law_over 1 "other" := ⟨rfl, rfl⟩
theorem g_law_over__law_fr : ("_law_fr" : Str) ∈ M_law_over.gl := List.Mem.head _
/-! law_below -/
abbrev s_law_below : Stmt := topS 29
abbrev N_law_below : List Str := "one" :: "other" :: []
abbrev M_law_below : Nm := ⟨N_law_below, [.lo, .lo], ([] : List Str), defScope s_law_below⟩
theorem sc_law_below : FnScope M_law_below.N ["one", "other"] (defScope s_law_below) := ⟨rfl, rfl, rfl, by decide +kernel, rfl, by decide +kernel, by decide +kernel⟩
theorem ok_law_below : nmOk M_law_below = true := by decide +kernel
theorem r_law_below_one : Rdb M_law_below 0 "one" := ⟨rfl, ⟨_, rfl, by simp⟩, by decide +kernel, by decide +kernel⟩
theorem t_law_below_one : Sto M_law_below 0 "one" := ⟨rfl, .inl rfl⟩
theorem l_law_below_one : Lcl M_law_below 0 "one" := ⟨rfl, rfl⟩
theorem r_law_below_other : Rdb M_law_below 1 "other" := ⟨rfl, ⟨_, rfl, by simp⟩, by decide +kernel, by decide +kernel⟩
theorem t_law_below_other : Sto M_law_below 1 "other" := ⟨rfl, .inl rfl⟩
theorem l_law_below_other : Lcl M_law_below 1 "other" := ⟨rfl, rfl⟩
/-! law_vector -/
abbrev s_law_vector : Stmt := topS 30
abbrev N_law_vector : List Str := "numbers" :: "one" :: []
abbrev M_law_vector : Nm := ⟨N_law_vector, [.lo, .no], ("tuple" :: [] : List Str), defScope s_law_vector⟩
theorem sc_law_vector : FnScope M_law_vector.N ["numbers"] (defScope s_law_vector) := ⟨rfl, rfl, rfl, by decide +kernel, rfl, by decide +kernel, by decide +kernel⟩
theorem ok_law_vector : nmOk M_law_vector = true := by decide +kernel
theorem r_law_vector_numbers : Rdb M_law_vector 0 "numbers" := ⟨rfl, ⟨_, rfl, by simp⟩, by decide +kernel, by decide +kernel⟩
theorem t_law_vector_numbers : Sto M_law_vector 0 "numbers" := ⟨rfl, .inl rfl⟩
theorem l_law_vector_numbers : Lcl M_law_vector 0 "numbers" := ⟨rfl, rfl⟩
theorem g_law_vector_tuple : ("tuple" : Str) ∈ M_law_vector.gl := List.Mem.head _
abbrev kd_law_vector_0 : List Kd := [.no, .lo]
abbrev gl_law_vector_0 : List Str := []
abbrev own_law_vector_0 : List (Str × Nat) := [("one", 1)]
theorem r_law_vector_0_one (s0 : Scope) : Rdb (blkNm M_law_vector s0 kd_law_vector_0 gl_law_vector_0) 1 "one" := ⟨rfl, ⟨_, rfl, by simp⟩, by decide +kernel, by decide +kernel⟩
theorem t_law_vector_0_one (s0 : Scope) : Sto (blkNm M_law_vector s0 kd_law_vector_0 gl_law_vector_0) 1 "one" := ⟨rfl, .inl rfl⟩
/-! law_added -/
abbrev s_law_added : Stmt := topS 31
abbrev N_law_added : List Str := "one" :: "other" :: "p" :: "q" :: []
abbrev M_law_added : Nm := ⟨N_law_added, [.lo, .lo, .no, .no], ("tuple" :: "zip" :: [] : List Str), defScope s_law_added⟩
theorem sc_law_added : FnScope M_law_added.N ["one", "other"] (defScope s_law_added) := ⟨rfl, rfl, rfl, by decide +kernel, rfl, by decide +kernel, by decide +kernel⟩
theorem ok_law_added : nmOk M_law_added = true := by decide +kernel
theorem r_law_added_one : Rdb M_law_added 0 "one" := ⟨rfl, ⟨_, rfl, by simp⟩, by decide +kernel, by decide +kernel⟩
theorem t_law_added_one : Sto M_law_added 0 "one" := ⟨rfl, .inl rfl⟩
theorem l_law_added_one : Lcl M_law_added 0 "one" := ⟨rfl, rfl⟩
theorem r_law_added_other : Rdb M_law_added 1 "other" := ⟨rfl, ⟨_, rfl, by simp⟩, by decide +kernel, by decide +kernel⟩
theorem t_law_added_other : Sto M_law_added 1 "other" := ⟨rfl, .inl rfl⟩
theorem l_law_added_other : Lcl M_law_added 1 "other" := ⟨rfl, rfl⟩
theorem g_law_added_tuple : ("tuple" : Str) ∈ M_law_added.gl := List.Mem.head _
theorem g_law_added_zip : ("zip" : Str) ∈ M_law_added.gl := List.Mem.tail _ (List.Mem.head _)
abbrev kd_law_added_0 : List Kd := [.no, .no, .lo, .lo]
abbrev gl_law_added_0 : List Str := "_law_plus" :: []
abbrev own_law_added_0 : List (Str × Nat) := [("p", 2), ("q", 3)]
theorem r_law_added_0_p (s0 : Scope) : Rdb (blkNm M_law_added s0 kd_law_added_0 gl_law_added_0) 2 "p" := ⟨rfl, ⟨_, rfl, by simp⟩, by decide +kernel, by decide +kernel⟩
theorem t_law_added_0_p (s0 : Scope) : Sto (blkNm M_law_added s0 kd_law_added_0 gl_law_added_0) 2 "p" := ⟨rfl, .inl rfl⟩
theorem r_law_added_0_q (s0 : Scope) : Rdb (blkNm M_law_added s0 kd_law_added_0 gl_law_added_0) 3 "q" := ⟨rfl, ⟨_, rfl, by simp⟩, by decide +kernel, by decide +kernel⟩
theorem t_law_added_0_q (s0 : Scope) : Sto (blkNm M_law_added s0 kd_law_added_0 gl_law_added_0) 3 "q" := ⟨rfl, .inl rfl⟩
theorem g_law_added_0__law_plus (s0 : Scope) : ("_law_plus" : Str) ∈ (blkNm M_law_added s0 kd_law_added_0 gl_law_added_0).gl := List.Mem.head _
/-! law_less -/
abbrev s_law_less : Stmt := topS 32
abbrev N_law_less : List Str := "one" :: "other" :: "p" :: "q" :: []
abbrev M_law_less : Nm := ⟨N_law_less, [.lo, .lo, .no, .no], ("tuple" :: "zip" :: [] : List Str), defScope s_law_less⟩
theorem sc_law_less : FnScope M_law_less.N ["one", "other"] (defScope s_law_less) := ⟨rfl, rfl, rfl, by decide +kernel, rfl, by decide +kernel, by decide +kernel⟩
theorem ok_law_less : nmOk M_law_less = true := by decide +kernel
theorem r_law_less_one : Rdb M_law_less 0 "one" := ⟨rfl, ⟨_, rfl, by simp⟩, by decide +kernel, by decide +kernel⟩
theorem t_law_less_one : Sto M_law_less 0 "one" := ⟨rfl, .inl rfl⟩
theorem l_law_less_one : Lcl M_law_less 0 "one" := ⟨rfl, rfl⟩
theorem r_law_less_other : Rdb M_law_less 1 "other" := ⟨rfl, ⟨_, rfl, by simp⟩, by decide +kernel, by decide +kernel⟩
theorem t_law_less_other : Sto M_law_less 1 "other" := ⟨rfl, .inl rfl⟩
theorem l_law_less_other : Lcl M_law_less 1 "other" := ⟨rfl, rfl⟩
theorem g_law_less_tuple : ("tuple" : Str) ∈ M_law_less.gl := List.Mem.head _
theorem g_law_less_zip : ("zip" : Str) ∈ M_law_less.gl := List.Mem.tail _ (List.Mem.head _)
abbrev kd_law_less_0 : List Kd := [.no, .no, .lo, .lo]
abbrev gl_law_less_0 : List Str := "_law_minus" :: []
abbrev own_law_less_0 : List (Str × Nat) := [("p", 2), ("q", 3)]
theorem r_law_less_0_p (s0 : Scope) : Rdb (blkNm M_law_less s0 kd_law_less_0 gl_law_less_0) 2 "p" := ⟨rfl, ⟨_, rfl, by simp⟩, by decide +kernel, by decide +kernel⟩
theorem t_law_less_0_p (s0 : Scope) : Sto (blkNm M_law_less s0 kd_law_less_0 gl_law_less_0) 2 "p" := ⟨rfl, .inl rfl⟩
theorem r_law_less_0_q (s0 : Scope) : Rdb (blkNm M_law_less s0 kd_law_less_0 gl_law_less_0) 3 "q" := ⟨rfl, ⟨_, rfl, by simp⟩, by decide +kernel, by decide +kernel⟩
theorem t_law_less_0_q (s0 : Scope) : Sto (blkNm M_law_less s0 kd_law_less_0 gl_law_less_0) 3 "q" := ⟨rfl, .inl rfl⟩
theorem g_law_less_0__law_minus (s0 : Scope) : ("_law_minus" : Str) ∈ (blkNm M_law_less s0 kd_law_less_0 gl_law_less_0).gl := List.Mem.head _
/-! law_multiple -/
abbrev s_law_multiple : Stmt := topS 33
abbrev N_law_multiple : List Str := "share" :: "vector" :: "p" :: []
abbrev M_law_multiple : Nm := ⟨N_law_multiple, [.ce, .lo, .no], ("tuple" :: [] : List Str), defScope s_law_multiple⟩
theorem sc_law_multiple : FnScope M_law_multiple.N ["share", "vector"] (defScope s_law_multiple) := ⟨rfl, rfl, rfl, by decide +kernel, rfl, by decide +kernel, by decide +kernel⟩
theorem ok_law_multiple : nmOk M_law_multiple = true := by decide +kernel
theorem r_law_multiple_share : Rdb M_law_multiple 0 "share" := ⟨rfl, ⟨_, rfl, by simp⟩, by decide +kernel, by decide +kernel⟩
theorem t_law_multiple_share : Sto M_law_multiple 0 "share" := ⟨rfl, .inr rfl⟩
theorem r_law_multiple_vector : Rdb M_law_multiple 1 "vector" := ⟨rfl, ⟨_, rfl, by simp⟩, by decide +kernel, by decide +kernel⟩
theorem t_law_multiple_vector : Sto M_law_multiple 1 "vector" := ⟨rfl, .inl rfl⟩
theorem l_law_multiple_vector : Lcl M_law_multiple 1 "vector" := ⟨rfl, rfl⟩
theorem g_law_multiple_tuple : ("tuple" : Str) ∈ M_law_multiple.gl := List.Mem.head _
abbrev kd_law_multiple_0 : List Kd := [.rd, .no, .lo]
abbrev gl_law_multiple_0 : List Str := "_law_times" :: []
abbrev own_law_multiple_0 : List (Str × Nat) := [("p", 2)]
theorem r_law_multiple_0_share (s0 : Scope) : Rdb (blkNm M_law_multiple s0 kd_law_multiple_0 gl_law_multiple_0) 0 "share" := ⟨rfl, ⟨_, rfl, by simp⟩, by decide +kernel, by decide +kernel⟩
theorem r_law_multiple_0_p (s0 : Scope) : Rdb (blkNm M_law_multiple s0 kd_law_multiple_0 gl_law_multiple_0) 2 "p" := ⟨rfl, ⟨_, rfl, by simp⟩, by decide +kernel, by decide +kernel⟩
theorem t_law_multiple_0_p (s0 : Scope) : Sto (blkNm M_law_multiple s0 kd_law_multiple_0 gl_law_multiple_0) 2 "p" := ⟨rfl, .inl rfl⟩
theorem g_law_multiple_0__law_times (s0 : Scope) : ("_law_times" : Str) ∈ (blkNm M_law_multiple s0 kd_law_multiple_0 gl_law_multiple_0).gl := List.Mem.head _
/-! law_frame -/
abbrev s_law_frame : Stmt := topS 34
abbrev N_law_frame : List Str := "bag" :: "most" :: "names" :: "cells" :: "way" :: "share" :: "cell" :: "free" :: "groups" :: "one" :: "group" :: []
abbrev M_law_frame : Nm := ⟨N_law_frame, [.ce, .lo, .lo, .lo, .lo, .lo, .lo, .ce, .lo, .no, .no], ("_law_mixed" :: "tuple" :: "_law_take" :: "_law_some" :: "len" :: [] : List Str), defScope s_law_frame⟩
theorem sc_law_frame : FnScope M_law_frame.N ["bag", "most"] (defScope s_law_frame) := ⟨rfl, rfl, rfl, by decide +kernel, rfl, by decide +kernel, by decide +kernel⟩
theorem ok_law_frame : nmOk M_law_frame = true := by decide +kernel
theorem r_law_frame_bag : Rdb M_law_frame 0 "bag" := ⟨rfl, ⟨_, rfl, by simp⟩, by decide +kernel, by decide +kernel⟩
theorem t_law_frame_bag : Sto M_law_frame 0 "bag" := ⟨rfl, .inr rfl⟩
theorem r_law_frame_most : Rdb M_law_frame 1 "most" := ⟨rfl, ⟨_, rfl, by simp⟩, by decide +kernel, by decide +kernel⟩
theorem t_law_frame_most : Sto M_law_frame 1 "most" := ⟨rfl, .inl rfl⟩
theorem l_law_frame_most : Lcl M_law_frame 1 "most" := ⟨rfl, rfl⟩
theorem r_law_frame_names : Rdb M_law_frame 2 "names" := ⟨rfl, ⟨_, rfl, by simp⟩, by decide +kernel, by decide +kernel⟩
theorem t_law_frame_names : Sto M_law_frame 2 "names" := ⟨rfl, .inl rfl⟩
theorem l_law_frame_names : Lcl M_law_frame 2 "names" := ⟨rfl, rfl⟩
theorem r_law_frame_cells : Rdb M_law_frame 3 "cells" := ⟨rfl, ⟨_, rfl, by simp⟩, by decide +kernel, by decide +kernel⟩
theorem t_law_frame_cells : Sto M_law_frame 3 "cells" := ⟨rfl, .inl rfl⟩
theorem l_law_frame_cells : Lcl M_law_frame 3 "cells" := ⟨rfl, rfl⟩
theorem r_law_frame_way : Rdb M_law_frame 4 "way" := ⟨rfl, ⟨_, rfl, by simp⟩, by decide +kernel, by decide +kernel⟩
theorem t_law_frame_way : Sto M_law_frame 4 "way" := ⟨rfl, .inl rfl⟩
theorem l_law_frame_way : Lcl M_law_frame 4 "way" := ⟨rfl, rfl⟩
theorem r_law_frame_share : Rdb M_law_frame 5 "share" := ⟨rfl, ⟨_, rfl, by simp⟩, by decide +kernel, by decide +kernel⟩
theorem t_law_frame_share : Sto M_law_frame 5 "share" := ⟨rfl, .inl rfl⟩
theorem l_law_frame_share : Lcl M_law_frame 5 "share" := ⟨rfl, rfl⟩
theorem r_law_frame_cell : Rdb M_law_frame 6 "cell" := ⟨rfl, ⟨_, rfl, by simp⟩, by decide +kernel, by decide +kernel⟩
theorem t_law_frame_cell : Sto M_law_frame 6 "cell" := ⟨rfl, .inl rfl⟩
theorem l_law_frame_cell : Lcl M_law_frame 6 "cell" := ⟨rfl, rfl⟩
theorem r_law_frame_free : Rdb M_law_frame 7 "free" := ⟨rfl, ⟨_, rfl, by simp⟩, by decide +kernel, by decide +kernel⟩
theorem t_law_frame_free : Sto M_law_frame 7 "free" := ⟨rfl, .inr rfl⟩
theorem r_law_frame_groups : Rdb M_law_frame 8 "groups" := ⟨rfl, ⟨_, rfl, by simp⟩, by decide +kernel, by decide +kernel⟩
theorem t_law_frame_groups : Sto M_law_frame 8 "groups" := ⟨rfl, .inl rfl⟩
theorem l_law_frame_groups : Lcl M_law_frame 8 "groups" := ⟨rfl, rfl⟩
theorem g_law_frame__law_mixed : ("_law_mixed" : Str) ∈ M_law_frame.gl := List.Mem.head _
theorem g_law_frame_tuple : ("tuple" : Str) ∈ M_law_frame.gl := List.Mem.tail _ (List.Mem.head _)
theorem g_law_frame__law_take : ("_law_take" : Str) ∈ M_law_frame.gl := List.Mem.tail _ (List.Mem.tail _ (List.Mem.head _))
theorem g_law_frame__law_some : ("_law_some" : Str) ∈ M_law_frame.gl := List.Mem.tail _ (List.Mem.tail _ (List.Mem.tail _ (List.Mem.head _)))
theorem g_law_frame_len : ("len" : Str) ∈ M_law_frame.gl := List.Mem.tail _ (List.Mem.tail _ (List.Mem.tail _ (List.Mem.tail _ (List.Mem.head _))))
abbrev kd_law_frame_0 : List Kd := [.rd, .no, .no, .no, .no, .no, .lo, .no, .no, .no, .no]
abbrev gl_law_frame_0 : List Str := "_law_take" :: "_law_some" :: []
abbrev own_law_frame_0 : List (Str × Nat) := [("cell", 6)]
theorem r_law_frame_0_bag (s0 : Scope) : Rdb (blkNm M_law_frame s0 kd_law_frame_0 gl_law_frame_0) 0 "bag" := ⟨rfl, ⟨_, rfl, by simp⟩, by decide +kernel, by decide +kernel⟩
theorem r_law_frame_0_cell (s0 : Scope) : Rdb (blkNm M_law_frame s0 kd_law_frame_0 gl_law_frame_0) 6 "cell" := ⟨rfl, ⟨_, rfl, by simp⟩, by decide +kernel, by decide +kernel⟩
theorem t_law_frame_0_cell (s0 : Scope) : Sto (blkNm M_law_frame s0 kd_law_frame_0 gl_law_frame_0) 6 "cell" := ⟨rfl, .inl rfl⟩
theorem g_law_frame_0__law_take (s0 : Scope) : ("_law_take" : Str) ∈ (blkNm M_law_frame s0 kd_law_frame_0 gl_law_frame_0).gl := List.Mem.head _
theorem g_law_frame_0__law_some (s0 : Scope) : ("_law_some" : Str) ∈ (blkNm M_law_frame s0 kd_law_frame_0 gl_law_frame_0).gl := List.Mem.tail _ (List.Mem.head _)
abbrev kd_law_frame_1 : List Kd := [.no, .no, .no, .no, .no, .no, .no, .rd, .no, .lo, .no]
abbrev gl_law_frame_1 : List Str := []
abbrev own_law_frame_1 : List (Str × Nat) := [("one", 9)]
theorem r_law_frame_1_free (s1 : Scope) : Rdb (blkNm M_law_frame s1 kd_law_frame_1 gl_law_frame_1) 7 "free" := ⟨rfl, ⟨_, rfl, by simp⟩, by decide +kernel, by decide +kernel⟩
theorem r_law_frame_1_one (s1 : Scope) : Rdb (blkNm M_law_frame s1 kd_law_frame_1 gl_law_frame_1) 9 "one" := ⟨rfl, ⟨_, rfl, by simp⟩, by decide +kernel, by decide +kernel⟩
theorem t_law_frame_1_one (s1 : Scope) : Sto (blkNm M_law_frame s1 kd_law_frame_1 gl_law_frame_1) 9 "one" := ⟨rfl, .inl rfl⟩
abbrev kd_law_frame_2 : List Kd := [.no, .no, .no, .no, .no, .no, .no, .no, .no, .no, .lo]
abbrev gl_law_frame_2 : List Str := "tuple" :: []
abbrev own_law_frame_2 : List (Str × Nat) := [("group", 10)]
theorem r_law_frame_2_group (s2 : Scope) : Rdb (blkNm M_law_frame s2 kd_law_frame_2 gl_law_frame_2) 10 "group" := ⟨rfl, ⟨_, rfl, by simp⟩, by decide +kernel, by decide +kernel⟩
theorem t_law_frame_2_group (s2 : Scope) : Sto (blkNm M_law_frame s2 kd_law_frame_2 gl_law_frame_2) 10 "group" := ⟨rfl, .inl rfl⟩
theorem g_law_frame_2_tuple (s2 : Scope) : ("tuple" : Str) ∈ (blkNm M_law_frame s2 kd_law_frame_2 gl_law_frame_2).gl := List.Mem.head _
/-! law_stand -/
abbrev s_law_stand : Stmt := topS 35
abbrev N_law_stand : List Str := "bag" :: "many" :: "den" :: "at" :: []
abbrev M_law_stand : Nm := ⟨N_law_stand, [.ce, .lo, .ce, .no], ("_law_some" :: "tuple" :: "range" :: [] : List Str), defScope s_law_stand⟩
theorem sc_law_stand : FnScope M_law_stand.N ["bag", "many"] (defScope s_law_stand) := ⟨rfl, rfl, rfl, by decide +kernel, rfl, by decide +kernel, by decide +kernel⟩
theorem ok_law_stand : nmOk M_law_stand = true := by decide +kernel
theorem r_law_stand_bag : Rdb M_law_stand 0 "bag" := ⟨rfl, ⟨_, rfl, by simp⟩, by decide +kernel, by decide +kernel⟩
theorem t_law_stand_bag : Sto M_law_stand 0 "bag" := ⟨rfl, .inr rfl⟩
theorem r_law_stand_many : Rdb M_law_stand 1 "many" := ⟨rfl, ⟨_, rfl, by simp⟩, by decide +kernel, by decide +kernel⟩
theorem t_law_stand_many : Sto M_law_stand 1 "many" := ⟨rfl, .inl rfl⟩
theorem l_law_stand_many : Lcl M_law_stand 1 "many" := ⟨rfl, rfl⟩
theorem r_law_stand_den : Rdb M_law_stand 2 "den" := ⟨rfl, ⟨_, rfl, by simp⟩, by decide +kernel, by decide +kernel⟩
theorem t_law_stand_den : Sto M_law_stand 2 "den" := ⟨rfl, .inr rfl⟩
theorem g_law_stand__law_some : ("_law_some" : Str) ∈ M_law_stand.gl := List.Mem.head _
theorem g_law_stand_tuple : ("tuple" : Str) ∈ M_law_stand.gl := List.Mem.tail _ (List.Mem.head _)
theorem g_law_stand_range : ("range" : Str) ∈ M_law_stand.gl := List.Mem.tail _ (List.Mem.tail _ (List.Mem.head _))
abbrev kd_law_stand_0 : List Kd := [.rd, .no, .rd, .lo]
abbrev gl_law_stand_0 : List Str := "_law_fr" :: "_law_take" :: []
abbrev own_law_stand_0 : List (Str × Nat) := [("at", 3)]
theorem r_law_stand_0_bag (s0 : Scope) : Rdb (blkNm M_law_stand s0 kd_law_stand_0 gl_law_stand_0) 0 "bag" := ⟨rfl, ⟨_, rfl, by simp⟩, by decide +kernel, by decide +kernel⟩
theorem r_law_stand_0_den (s0 : Scope) : Rdb (blkNm M_law_stand s0 kd_law_stand_0 gl_law_stand_0) 2 "den" := ⟨rfl, ⟨_, rfl, by simp⟩, by decide +kernel, by decide +kernel⟩
theorem r_law_stand_0_at (s0 : Scope) : Rdb (blkNm M_law_stand s0 kd_law_stand_0 gl_law_stand_0) 3 "at" := ⟨rfl, ⟨_, rfl, by simp⟩, by decide +kernel, by decide +kernel⟩
theorem t_law_stand_0_at (s0 : Scope) : Sto (blkNm M_law_stand s0 kd_law_stand_0 gl_law_stand_0) 3 "at" := ⟨rfl, .inl rfl⟩
theorem g_law_stand_0__law_fr (s0 : Scope) : ("_law_fr" : Str) ∈ (blkNm M_law_stand s0 kd_law_stand_0 gl_law_stand_0).gl := List.Mem.head _
theorem g_law_stand_0__law_take (s0 : Scope) : ("_law_take" : Str) ∈ (blkNm M_law_stand s0 kd_law_stand_0 gl_law_stand_0).gl := List.Mem.tail _ (List.Mem.head _)
/-! law_reading -/
abbrev s_law_reading : Stmt := topS 36
abbrev N_law_reading : List Str := "bag" :: "many" :: "way" :: "at" :: "other" :: "spot" :: []
abbrev M_law_reading : Nm := ⟨N_law_reading, [.ce, .lo, .lo, .ce, .ce, .no], ("_law_take" :: "tuple" :: "range" :: [] : List Str), defScope s_law_reading⟩
theorem sc_law_reading : FnScope M_law_reading.N ["bag", "many"] (defScope s_law_reading) := ⟨rfl, rfl, rfl, by decide +kernel, rfl, by decide +kernel, by decide +kernel⟩
theorem ok_law_reading : nmOk M_law_reading = true := by decide +kernel
theorem r_law_reading_bag : Rdb M_law_reading 0 "bag" := ⟨rfl, ⟨_, rfl, by simp⟩, by decide +kernel, by decide +kernel⟩
theorem t_law_reading_bag : Sto M_law_reading 0 "bag" := ⟨rfl, .inr rfl⟩
theorem r_law_reading_many : Rdb M_law_reading 1 "many" := ⟨rfl, ⟨_, rfl, by simp⟩, by decide +kernel, by decide +kernel⟩
theorem t_law_reading_many : Sto M_law_reading 1 "many" := ⟨rfl, .inl rfl⟩
theorem l_law_reading_many : Lcl M_law_reading 1 "many" := ⟨rfl, rfl⟩
theorem r_law_reading_way : Rdb M_law_reading 2 "way" := ⟨rfl, ⟨_, rfl, by simp⟩, by decide +kernel, by decide +kernel⟩
theorem t_law_reading_way : Sto M_law_reading 2 "way" := ⟨rfl, .inl rfl⟩
theorem l_law_reading_way : Lcl M_law_reading 2 "way" := ⟨rfl, rfl⟩
theorem r_law_reading_at : Rdb M_law_reading 3 "at" := ⟨rfl, ⟨_, rfl, by simp⟩, by decide +kernel, by decide +kernel⟩
theorem t_law_reading_at : Sto M_law_reading 3 "at" := ⟨rfl, .inr rfl⟩
theorem r_law_reading_other : Rdb M_law_reading 4 "other" := ⟨rfl, ⟨_, rfl, by simp⟩, by decide +kernel, by decide +kernel⟩
theorem t_law_reading_other : Sto M_law_reading 4 "other" := ⟨rfl, .inr rfl⟩
theorem g_law_reading__law_take : ("_law_take" : Str) ∈ M_law_reading.gl := List.Mem.head _
theorem g_law_reading_tuple : ("tuple" : Str) ∈ M_law_reading.gl := List.Mem.tail _ (List.Mem.head _)
theorem g_law_reading_range : ("range" : Str) ∈ M_law_reading.gl := List.Mem.tail _ (List.Mem.tail _ (List.Mem.head _))
abbrev kd_law_reading_0 : List Kd := [.rd, .no, .no, .rd, .no, .lo]
abbrev gl_law_reading_0 : List Str := "_law_some" :: []
abbrev own_law_reading_0 : List (Str × Nat) := [("spot", 5)]
theorem r_law_reading_0_bag (s0 : Scope) : Rdb (blkNm M_law_reading s0 kd_law_reading_0 gl_law_reading_0) 0 "bag" := ⟨rfl, ⟨_, rfl, by simp⟩, by decide +kernel, by decide +kernel⟩
theorem r_law_reading_0_at (s0 : Scope) : Rdb (blkNm M_law_reading s0 kd_law_reading_0 gl_law_reading_0) 3 "at" := ⟨rfl, ⟨_, rfl, by simp⟩, by decide +kernel, by decide +kernel⟩
theorem r_law_reading_0_spot (s0 : Scope) : Rdb (blkNm M_law_reading s0 kd_law_reading_0 gl_law_reading_0) 5 "spot" := ⟨rfl, ⟨_, rfl, by simp⟩, by decide +kernel, by decide +kernel⟩
theorem t_law_reading_0_spot (s0 : Scope) : Sto (blkNm M_law_reading s0 kd_law_reading_0 gl_law_reading_0) 5 "spot" := ⟨rfl, .inl rfl⟩
theorem g_law_reading_0__law_some (s0 : Scope) : ("_law_some" : Str) ∈ (blkNm M_law_reading s0 kd_law_reading_0 gl_law_reading_0).gl := List.Mem.head _
abbrev kd_law_reading_1 : List Kd := [.no, .no, .no, .rd, .rd, .lo]
abbrev gl_law_reading_1 : List Str := "int" :: []
abbrev own_law_reading_1 : List (Str × Nat) := [("spot", 5)]
theorem r_law_reading_1_at (s1 : Scope) : Rdb (blkNm M_law_reading s1 kd_law_reading_1 gl_law_reading_1) 3 "at" := ⟨rfl, ⟨_, rfl, by simp⟩, by decide +kernel, by decide +kernel⟩
theorem r_law_reading_1_other (s1 : Scope) : Rdb (blkNm M_law_reading s1 kd_law_reading_1 gl_law_reading_1) 4 "other" := ⟨rfl, ⟨_, rfl, by simp⟩, by decide +kernel, by decide +kernel⟩
theorem r_law_reading_1_spot (s1 : Scope) : Rdb (blkNm M_law_reading s1 kd_law_reading_1 gl_law_reading_1) 5 "spot" := ⟨rfl, ⟨_, rfl, by simp⟩, by decide +kernel, by decide +kernel⟩
theorem t_law_reading_1_spot (s1 : Scope) : Sto (blkNm M_law_reading s1 kd_law_reading_1 gl_law_reading_1) 5 "spot" := ⟨rfl, .inl rfl⟩
theorem g_law_reading_1_int (s1 : Scope) : ("int" : Str) ∈ (blkNm M_law_reading s1 kd_law_reading_1 gl_law_reading_1).gl := List.Mem.head _
abbrev kd_law_reading_2 : List Kd := [.rd, .no, .no, .no, .no, .lo]
abbrev gl_law_reading_2 : List Str := "_law_some" :: []
abbrev own_law_reading_2 : List (Str × Nat) := [("spot", 5)]
theorem r_law_reading_2_bag (s2 : Scope) : Rdb (blkNm M_law_reading s2 kd_law_reading_2 gl_law_reading_2) 0 "bag" := ⟨rfl, ⟨_, rfl, by simp⟩, by decide +kernel, by decide +kernel⟩
theorem r_law_reading_2_spot (s2 : Scope) : Rdb (blkNm M_law_reading s2 kd_law_reading_2 gl_law_reading_2) 5 "spot" := ⟨rfl, ⟨_, rfl, by simp⟩, by decide +kernel, by decide +kernel⟩
theorem t_law_reading_2_spot (s2 : Scope) : Sto (blkNm M_law_reading s2 kd_law_reading_2 gl_law_reading_2) 5 "spot" := ⟨rfl, .inl rfl⟩
theorem g_law_reading_2__law_some (s2 : Scope) : ("_law_some" : Str) ∈ (blkNm M_law_reading s2 kd_law_reading_2 gl_law_reading_2).gl := List.Mem.head _
/-! law_number -/
abbrev s_law_number : Stmt := topS 37
abbrev N_law_number : List Str := "bag" :: "way" :: []
abbrev M_law_number : Nm := ⟨N_law_number, [.lo, .lo], ("_law_take" :: [] : List Str), defScope s_law_number⟩
theorem sc_law_number : FnScope M_law_number.N ["bag"] (defScope s_law_number) := ⟨rfl, rfl, rfl, by decide +kernel, rfl, by decide +kernel, by decide +kernel⟩
theorem ok_law_number : nmOk M_law_number = true := by decide +kernel
theorem r_law_number_bag : Rdb M_law_number 0 "bag" := ⟨rfl, ⟨_, rfl, by simp⟩, by decide +kernel, by decide +kernel⟩
theorem t_law_number_bag : Sto M_law_number 0 "bag" := ⟨rfl, .inl rfl⟩
theorem l_law_number_bag : Lcl M_law_number 0 "bag" := ⟨rfl, rfl⟩
theorem r_law_number_way : Rdb M_law_number 1 "way" := ⟨rfl, ⟨_, rfl, by simp⟩, by decide +kernel, by decide +kernel⟩
theorem t_law_number_way : Sto M_law_number 1 "way" := ⟨rfl, .inl rfl⟩
theorem l_law_number_way : Lcl M_law_number 1 "way" := ⟨rfl, rfl⟩
theorem g_law_number__law_take : ("_law_take" : Str) ∈ M_law_number.gl := List.Mem.head _
/-! law_drawn_fraction -/
abbrev s_law_drawn_fraction : Stmt := topS 38
abbrev N_law_drawn_fraction : List Str := "bag" :: []
abbrev M_law_drawn_fraction : Nm := ⟨N_law_drawn_fraction, [.lo], ("_law_fr" :: "_law_number" :: "abs" :: [] : List Str), defScope s_law_drawn_fraction⟩
theorem sc_law_drawn_fraction : FnScope M_law_drawn_fraction.N ["bag"] (defScope s_law_drawn_fraction) := ⟨rfl, rfl, rfl, by decide +kernel, rfl, by decide +kernel, by decide +kernel⟩
theorem ok_law_drawn_fraction : nmOk M_law_drawn_fraction = true := by decide +kernel
theorem r_law_drawn_fraction_bag : Rdb M_law_drawn_fraction 0 "bag" := ⟨rfl, ⟨_, rfl, by simp⟩, by decide +kernel, by decide +kernel⟩
theorem t_law_drawn_fraction_bag : Sto M_law_drawn_fraction 0 "bag" := ⟨rfl, .inl rfl⟩
theorem l_law_drawn_fraction_bag : Lcl M_law_drawn_fraction 0 "bag" := ⟨rfl, rfl⟩
theorem g_law_drawn_fraction__law_fr : ("_law_fr" : Str) ∈ M_law_drawn_fraction.gl := List.Mem.head _
theorem g_law_drawn_fraction__law_number : ("_law_number" : Str) ∈ M_law_drawn_fraction.gl := List.Mem.tail _ (List.Mem.head _)
theorem g_law_drawn_fraction_abs : ("abs" : Str) ∈ M_law_drawn_fraction.gl := List.Mem.tail _ (List.Mem.tail _ (List.Mem.head _))
/-! law_floor -/
abbrev s_law_floor : Stmt := topS 39
abbrev N_law_floor : List Str := "one" :: []
abbrev M_law_floor : Nm := ⟨N_law_floor, [.lo], ("int" :: [] : List Str), defScope s_law_floor⟩
theorem sc_law_floor : FnScope M_law_floor.N ["one"] (defScope s_law_floor) := ⟨rfl, rfl, rfl, by decide +kernel, rfl, by decide +kernel, by decide +kernel⟩
theorem ok_law_floor : nmOk M_law_floor = true := by decide +kernel
theorem r_law_floor_one : Rdb M_law_floor 0 "one" := ⟨rfl, ⟨_, rfl, by simp⟩, by decide +kernel, by decide +kernel⟩
theorem t_law_floor_one : Sto M_law_floor 0 "one" := ⟨rfl, .inl rfl⟩
theorem l_law_floor_one : Lcl M_law_floor 0 "one" := ⟨rfl, rfl⟩
theorem g_law_floor_int : ("int" : Str) ∈ M_law_floor.gl := List.Mem.head _
/-! law -/
abbrev s_law : Stmt := topS 40
abbrev N_law : List Str := "script" :: "bag" :: "step" :: "one" :: "other" :: "num" :: "den" :: "told" :: "due" :: "near" :: "first" :: "second" :: "frame" :: "many" :: "numbers" :: []
abbrev M_law : Nm := ⟨N_law, [.lo, .lo, .lo, .lo, .lo, .lo, .lo, .lo, .lo, .lo, .lo, .lo, .lo, .lo, .lo], ("_law_bag" :: "range" :: "_law_drawn_fraction" :: "_law_number" :: "plus" :: "minus" :: "times" :: "whole" :: "_law_plus" :: "_law_minus" :: "_law_times" :: "is_less" :: "is_at_most" :: "_law_below" :: "sign_of" :: "floor_of" :: "fraction" :: "int" :: "_law_floor" :: "_law_fr" :: "_law_some" :: "_law_take" :: "over" :: "_law_over" :: "_law_frame" :: "len" :: "_law_stand" :: "_law_reading" :: "nought" :: "added" :: "less" :: "multiple" :: "vector_of" :: "_law_added" :: "_law_less" :: "_law_multiple" :: "_law_vector" :: "_law_alike" :: [] : List Str), defScope s_law⟩
theorem sc_law : FnScope M_law.N ["script"] (defScope s_law) := ⟨rfl, rfl, rfl, by decide +kernel, rfl, by decide +kernel, by decide +kernel⟩
theorem ok_law : nmOk M_law = true := by decide +kernel
theorem r_law_script : Rdb M_law 0 "script" := ⟨rfl, ⟨_, rfl, by simp⟩, by decide +kernel, by decide +kernel⟩
theorem t_law_script : Sto M_law 0 "script" := ⟨rfl, .inl rfl⟩
theorem l_law_script : Lcl M_law 0 "script" := ⟨rfl, rfl⟩
theorem r_law_bag : Rdb M_law 1 "bag" := ⟨rfl, ⟨_, rfl, by simp⟩, by decide +kernel, by decide +kernel⟩
theorem t_law_bag : Sto M_law 1 "bag" := ⟨rfl, .inl rfl⟩
theorem l_law_bag : Lcl M_law 1 "bag" := ⟨rfl, rfl⟩
theorem r_law_step : Rdb M_law 2 "step" := ⟨rfl, ⟨_, rfl, by simp⟩, by decide +kernel, by decide +kernel⟩
theorem t_law_step : Sto M_law 2 "step" := ⟨rfl, .inl rfl⟩
theorem l_law_step : Lcl M_law 2 "step" := ⟨rfl, rfl⟩
theorem r_law_one : Rdb M_law 3 "one" := ⟨rfl, ⟨_, rfl, by simp⟩, by decide +kernel, by decide +kernel⟩
theorem t_law_one : Sto M_law 3 "one" := ⟨rfl, .inl rfl⟩
theorem l_law_one : Lcl M_law 3 "one" := ⟨rfl, rfl⟩
theorem r_law_other : Rdb M_law 4 "other" := ⟨rfl, ⟨_, rfl, by simp⟩, by decide +kernel, by decide +kernel⟩
theorem t_law_other : Sto M_law 4 "other" := ⟨rfl, .inl rfl⟩
theorem l_law_other : Lcl M_law 4 "other" := ⟨rfl, rfl⟩
theorem r_law_num : Rdb M_law 5 "num" := ⟨rfl, ⟨_, rfl, by simp⟩, by decide +kernel, by decide +kernel⟩
theorem t_law_num : Sto M_law 5 "num" := ⟨rfl, .inl rfl⟩
theorem l_law_num : Lcl M_law 5 "num" := ⟨rfl, rfl⟩
theorem r_law_den : Rdb M_law 6 "den" := ⟨rfl, ⟨_, rfl, by simp⟩, by decide +kernel, by decide +kernel⟩
theorem t_law_den : Sto M_law 6 "den" := ⟨rfl, .inl rfl⟩
theorem l_law_den : Lcl M_law 6 "den" := ⟨rfl, rfl⟩
theorem r_law_told : Rdb M_law 7 "told" := ⟨rfl, ⟨_, rfl, by simp⟩, by decide +kernel, by decide +kernel⟩
theorem t_law_told : Sto M_law 7 "told" := ⟨rfl, .inl rfl⟩
theorem l_law_told : Lcl M_law 7 "told" := ⟨rfl, rfl⟩
theorem r_law_due : Rdb M_law 8 "due" := ⟨rfl, ⟨_, rfl, by simp⟩, by decide +kernel, by decide +kernel⟩
theorem t_law_due : Sto M_law 8 "due" := ⟨rfl, .inl rfl⟩
theorem l_law_due : Lcl M_law 8 "due" := ⟨rfl, rfl⟩
theorem r_law_near : Rdb M_law 9 "near" := ⟨rfl, ⟨_, rfl, by simp⟩, by decide +kernel, by decide +kernel⟩
theorem t_law_near : Sto M_law 9 "near" := ⟨rfl, .inl rfl⟩
theorem l_law_near : Lcl M_law 9 "near" := ⟨rfl, rfl⟩
theorem r_law_first : Rdb M_law 10 "first" := ⟨rfl, ⟨_, rfl, by simp⟩, by decide +kernel, by decide +kernel⟩
theorem t_law_first : Sto M_law 10 "first" := ⟨rfl, .inl rfl⟩
theorem l_law_first : Lcl M_law 10 "first" := ⟨rfl, rfl⟩
theorem r_law_second : Rdb M_law 11 "second" := ⟨rfl, ⟨_, rfl, by simp⟩, by decide +kernel, by decide +kernel⟩
theorem t_law_second : Sto M_law 11 "second" := ⟨rfl, .inl rfl⟩
theorem l_law_second : Lcl M_law 11 "second" := ⟨rfl, rfl⟩
theorem r_law_frame : Rdb M_law 12 "frame" := ⟨rfl, ⟨_, rfl, by simp⟩, by decide +kernel, by decide +kernel⟩
theorem t_law_frame : Sto M_law 12 "frame" := ⟨rfl, .inl rfl⟩
theorem l_law_frame : Lcl M_law 12 "frame" := ⟨rfl, rfl⟩
theorem r_law_many : Rdb M_law 13 "many" := ⟨rfl, ⟨_, rfl, by simp⟩, by decide +kernel, by decide +kernel⟩
theorem t_law_many : Sto M_law 13 "many" := ⟨rfl, .inl rfl⟩
theorem l_law_many : Lcl M_law 13 "many" := ⟨rfl, rfl⟩
theorem r_law_numbers : Rdb M_law 14 "numbers" := ⟨rfl, ⟨_, rfl, by simp⟩, by decide +kernel, by decide +kernel⟩
theorem t_law_numbers : Sto M_law 14 "numbers" := ⟨rfl, .inl rfl⟩
theorem l_law_numbers : Lcl M_law 14 "numbers" := ⟨rfl, rfl⟩
theorem g_law__law_bag : ("_law_bag" : Str) ∈ M_law.gl := List.Mem.head _
theorem g_law_range : ("range" : Str) ∈ M_law.gl := List.Mem.tail _ (List.Mem.head _)
theorem g_law__law_drawn_fraction : ("_law_drawn_fraction" : Str) ∈ M_law.gl := List.Mem.tail _ (List.Mem.tail _ (List.Mem.head _))
theorem g_law__law_number : ("_law_number" : Str) ∈ M_law.gl := List.Mem.tail _ (List.Mem.tail _ (List.Mem.tail _ (List.Mem.head _)))
theorem g_law_plus : ("plus" : Str) ∈ M_law.gl := List.Mem.tail _ (List.Mem.tail _ (List.Mem.tail _ (List.Mem.tail _ (List.Mem.head _))))
theorem g_law_minus : ("minus" : Str) ∈ M_law.gl := List.Mem.tail _ (List.Mem.tail _ (List.Mem.tail _ (List.Mem.tail _ (List.Mem.tail _ (List.Mem.head _)))))
theorem g_law_times : ("times" : Str) ∈ M_law.gl := List.Mem.tail _ (List.Mem.tail _ (List.Mem.tail _ (List.Mem.tail _ (List.Mem.tail _ (List.Mem.tail _ (List.Mem.head _))))))
theorem g_law_whole : ("whole" : Str) ∈ M_law.gl := List.Mem.tail _ (List.Mem.tail _ (List.Mem.tail _ (List.Mem.tail _ (List.Mem.tail _ (List.Mem.tail _ (List.Mem.tail _ (List.Mem.head _)))))))
theorem g_law__law_plus : ("_law_plus" : Str) ∈ M_law.gl := List.Mem.tail _ (List.Mem.tail _ (List.Mem.tail _ (List.Mem.tail _ (List.Mem.tail _ (List.Mem.tail _ (List.Mem.tail _ (List.Mem.tail _ (List.Mem.head _))))))))
theorem g_law__law_minus : ("_law_minus" : Str) ∈ M_law.gl := List.Mem.tail _ (List.Mem.tail _ (List.Mem.tail _ (List.Mem.tail _ (List.Mem.tail _ (List.Mem.tail _ (List.Mem.tail _ (List.Mem.tail _ (List.Mem.tail _ (List.Mem.head _)))))))))
theorem g_law__law_times : ("_law_times" : Str) ∈ M_law.gl := List.Mem.tail _ (List.Mem.tail _ (List.Mem.tail _ (List.Mem.tail _ (List.Mem.tail _ (List.Mem.tail _ (List.Mem.tail _ (List.Mem.tail _ (List.Mem.tail _ (List.Mem.tail _ (List.Mem.head _))))))))))
theorem g_law_is_less : ("is_less" : Str) ∈ M_law.gl := List.Mem.tail _ (List.Mem.tail _ (List.Mem.tail _ (List.Mem.tail _ (List.Mem.tail _ (List.Mem.tail _ (List.Mem.tail _ (List.Mem.tail _ (List.Mem.tail _ (List.Mem.tail _ (List.Mem.tail _ (List.Mem.head _)))))))))))
theorem g_law_is_at_most : ("is_at_most" : Str) ∈ M_law.gl := List.Mem.tail _ (List.Mem.tail _ (List.Mem.tail _ (List.Mem.tail _ (List.Mem.tail _ (List.Mem.tail _ (List.Mem.tail _ (List.Mem.tail _ (List.Mem.tail _ (List.Mem.tail _ (List.Mem.tail _ (List.Mem.tail _ (List.Mem.head _))))))))))))
theorem g_law__law_below : ("_law_below" : Str) ∈ M_law.gl := List.Mem.tail _ (List.Mem.tail _ (List.Mem.tail _ (List.Mem.tail _ (List.Mem.tail _ (List.Mem.tail _ (List.Mem.tail _ (List.Mem.tail _ (List.Mem.tail _ (List.Mem.tail _ (List.Mem.tail _ (List.Mem.tail _ (List.Mem.tail _ (List.Mem.head _)))))))))))))
theorem g_law_sign_of : ("sign_of" : Str) ∈ M_law.gl := List.Mem.tail _ (List.Mem.tail _ (List.Mem.tail _ (List.Mem.tail _ (List.Mem.tail _ (List.Mem.tail _ (List.Mem.tail _ (List.Mem.tail _ (List.Mem.tail _ (List.Mem.tail _ (List.Mem.tail _ (List.Mem.tail _ (List.Mem.tail _ (List.Mem.tail _ (List.Mem.head _))))))))))))))
theorem g_law_floor_of : ("floor_of" : Str) ∈ M_law.gl := List.Mem.tail _ (List.Mem.tail _ (List.Mem.tail _ (List.Mem.tail _ (List.Mem.tail _ (List.Mem.tail _ (List.Mem.tail _ (List.Mem.tail _ (List.Mem.tail _ (List.Mem.tail _ (List.Mem.tail _ (List.Mem.tail _ (List.Mem.tail _ (List.Mem.tail _ (List.Mem.tail _ (List.Mem.head _)))))))))))))))
theorem g_law_fraction : ("fraction" : Str) ∈ M_law.gl := List.Mem.tail _ (List.Mem.tail _ (List.Mem.tail _ (List.Mem.tail _ (List.Mem.tail _ (List.Mem.tail _ (List.Mem.tail _ (List.Mem.tail _ (List.Mem.tail _ (List.Mem.tail _ (List.Mem.tail _ (List.Mem.tail _ (List.Mem.tail _ (List.Mem.tail _ (List.Mem.tail _ (List.Mem.tail _ (List.Mem.head _))))))))))))))))
theorem g_law_int : ("int" : Str) ∈ M_law.gl := List.Mem.tail _ (List.Mem.tail _ (List.Mem.tail _ (List.Mem.tail _ (List.Mem.tail _ (List.Mem.tail _ (List.Mem.tail _ (List.Mem.tail _ (List.Mem.tail _ (List.Mem.tail _ (List.Mem.tail _ (List.Mem.tail _ (List.Mem.tail _ (List.Mem.tail _ (List.Mem.tail _ (List.Mem.tail _ (List.Mem.tail _ (List.Mem.head _)))))))))))))))))
theorem g_law__law_floor : ("_law_floor" : Str) ∈ M_law.gl := List.Mem.tail _ (List.Mem.tail _ (List.Mem.tail _ (List.Mem.tail _ (List.Mem.tail _ (List.Mem.tail _ (List.Mem.tail _ (List.Mem.tail _ (List.Mem.tail _ (List.Mem.tail _ (List.Mem.tail _ (List.Mem.tail _ (List.Mem.tail _ (List.Mem.tail _ (List.Mem.tail _ (List.Mem.tail _ (List.Mem.tail _ (List.Mem.tail _ (List.Mem.head _))))))))))))))))))
theorem g_law__law_fr : ("_law_fr" : Str) ∈ M_law.gl := List.Mem.tail _ (List.Mem.tail _ (List.Mem.tail _ (List.Mem.tail _ (List.Mem.tail _ (List.Mem.tail _ (List.Mem.tail _ (List.Mem.tail _ (List.Mem.tail _ (List.Mem.tail _ (List.Mem.tail _ (List.Mem.tail _ (List.Mem.tail _ (List.Mem.tail _ (List.Mem.tail _ (List.Mem.tail _ (List.Mem.tail _ (List.Mem.tail _ (List.Mem.tail _ (List.Mem.head _)))))))))))))))))))
theorem g_law__law_some : ("_law_some" : Str) ∈ M_law.gl := List.Mem.tail _ (List.Mem.tail _ (List.Mem.tail _ (List.Mem.tail _ (List.Mem.tail _ (List.Mem.tail _ (List.Mem.tail _ (List.Mem.tail _ (List.Mem.tail _ (List.Mem.tail _ (List.Mem.tail _ (List.Mem.tail _ (List.Mem.tail _ (List.Mem.tail _ (List.Mem.tail _ (List.Mem.tail _ (List.Mem.tail _ (List.Mem.tail _ (List.Mem.tail _ (List.Mem.tail _ (List.Mem.head _))))))))))))))))))))
theorem g_law__law_take : ("_law_take" : Str) ∈ M_law.gl := List.Mem.tail _ (List.Mem.tail _ (List.Mem.tail _ (List.Mem.tail _ (List.Mem.tail _ (List.Mem.tail _ (List.Mem.tail _ (List.Mem.tail _ (List.Mem.tail _ (List.Mem.tail _ (List.Mem.tail _ (List.Mem.tail _ (List.Mem.tail _ (List.Mem.tail _ (List.Mem.tail _ (List.Mem.tail _ (List.Mem.tail _ (List.Mem.tail _ (List.Mem.tail _ (List.Mem.tail _ (List.Mem.tail _ (List.Mem.head _)))))))))))))))))))))
theorem g_law_over : ("over" : Str) ∈ M_law.gl := List.Mem.tail _ (List.Mem.tail _ (List.Mem.tail _ (List.Mem.tail _ (List.Mem.tail _ (List.Mem.tail _ (List.Mem.tail _ (List.Mem.tail _ (List.Mem.tail _ (List.Mem.tail _ (List.Mem.tail _ (List.Mem.tail _ (List.Mem.tail _ (List.Mem.tail _ (List.Mem.tail _ (List.Mem.tail _ (List.Mem.tail _ (List.Mem.tail _ (List.Mem.tail _ (List.Mem.tail _ (List.Mem.tail _ (List.Mem.tail _ (List.Mem.head _))))))))))))))))))))))
theorem g_law__law_over : ("_law_over" : Str) ∈ M_law.gl := List.Mem.tail _ (List.Mem.tail _ (List.Mem.tail _ (List.Mem.tail _ (List.Mem.tail _ (List.Mem.tail _ (List.Mem.tail _ (List.Mem.tail _ (List.Mem.tail _ (List.Mem.tail _ (List.Mem.tail _ (List.Mem.tail _ (List.Mem.tail _ (List.Mem.tail _ (List.Mem.tail _ (List.Mem.tail _ (List.Mem.tail _ (List.Mem.tail _ (List.Mem.tail _ (List.Mem.tail _ (List.Mem.tail _ (List.Mem.tail _ (List.Mem.tail _ (List.Mem.head _)))))))))))))))))))))))
theorem g_law__law_frame : ("_law_frame" : Str) ∈ M_law.gl := List.Mem.tail _ (List.Mem.tail _ (List.Mem.tail _ (List.Mem.tail _ (List.Mem.tail _ (List.Mem.tail _ (List.Mem.tail _ (List.Mem.tail _ (List.Mem.tail _ (List.Mem.tail _ (List.Mem.tail _ (List.Mem.tail _ (List.Mem.tail _ (List.Mem.tail _ (List.Mem.tail _ (List.Mem.tail _ (List.Mem.tail _ (List.Mem.tail _ (List.Mem.tail _ (List.Mem.tail _ (List.Mem.tail _ (List.Mem.tail _ (List.Mem.tail _ (List.Mem.tail _ (List.Mem.head _))))))))))))))))))))))))
theorem g_law_len : ("len" : Str) ∈ M_law.gl := List.Mem.tail _ (List.Mem.tail _ (List.Mem.tail _ (List.Mem.tail _ (List.Mem.tail _ (List.Mem.tail _ (List.Mem.tail _ (List.Mem.tail _ (List.Mem.tail _ (List.Mem.tail _ (List.Mem.tail _ (List.Mem.tail _ (List.Mem.tail _ (List.Mem.tail _ (List.Mem.tail _ (List.Mem.tail _ (List.Mem.tail _ (List.Mem.tail _ (List.Mem.tail _ (List.Mem.tail _ (List.Mem.tail _ (List.Mem.tail _ (List.Mem.tail _ (List.Mem.tail _ (List.Mem.tail _ (List.Mem.head _)))))))))))))))))))))))))
theorem g_law__law_stand : ("_law_stand" : Str) ∈ M_law.gl := List.Mem.tail _ (List.Mem.tail _ (List.Mem.tail _ (List.Mem.tail _ (List.Mem.tail _ (List.Mem.tail _ (List.Mem.tail _ (List.Mem.tail _ (List.Mem.tail _ (List.Mem.tail _ (List.Mem.tail _ (List.Mem.tail _ (List.Mem.tail _ (List.Mem.tail _ (List.Mem.tail _ (List.Mem.tail _ (List.Mem.tail _ (List.Mem.tail _ (List.Mem.tail _ (List.Mem.tail _ (List.Mem.tail _ (List.Mem.tail _ (List.Mem.tail _ (List.Mem.tail _ (List.Mem.tail _ (List.Mem.tail _ (List.Mem.head _))))))))))))))))))))))))))
theorem g_law__law_reading : ("_law_reading" : Str) ∈ M_law.gl := List.Mem.tail _ (List.Mem.tail _ (List.Mem.tail _ (List.Mem.tail _ (List.Mem.tail _ (List.Mem.tail _ (List.Mem.tail _ (List.Mem.tail _ (List.Mem.tail _ (List.Mem.tail _ (List.Mem.tail _ (List.Mem.tail _ (List.Mem.tail _ (List.Mem.tail _ (List.Mem.tail _ (List.Mem.tail _ (List.Mem.tail _ (List.Mem.tail _ (List.Mem.tail _ (List.Mem.tail _ (List.Mem.tail _ (List.Mem.tail _ (List.Mem.tail _ (List.Mem.tail _ (List.Mem.tail _ (List.Mem.tail _ (List.Mem.tail _ (List.Mem.head _)))))))))))))))))))))))))))
theorem g_law_nought : ("nought" : Str) ∈ M_law.gl := List.Mem.tail _ (List.Mem.tail _ (List.Mem.tail _ (List.Mem.tail _ (List.Mem.tail _ (List.Mem.tail _ (List.Mem.tail _ (List.Mem.tail _ (List.Mem.tail _ (List.Mem.tail _ (List.Mem.tail _ (List.Mem.tail _ (List.Mem.tail _ (List.Mem.tail _ (List.Mem.tail _ (List.Mem.tail _ (List.Mem.tail _ (List.Mem.tail _ (List.Mem.tail _ (List.Mem.tail _ (List.Mem.tail _ (List.Mem.tail _ (List.Mem.tail _ (List.Mem.tail _ (List.Mem.tail _ (List.Mem.tail _ (List.Mem.tail _ (List.Mem.tail _ (List.Mem.head _))))))))))))))))))))))))))))
theorem g_law_added : ("added" : Str) ∈ M_law.gl := List.Mem.tail _ (List.Mem.tail _ (List.Mem.tail _ (List.Mem.tail _ (List.Mem.tail _ (List.Mem.tail _ (List.Mem.tail _ (List.Mem.tail _ (List.Mem.tail _ (List.Mem.tail _ (List.Mem.tail _ (List.Mem.tail _ (List.Mem.tail _ (List.Mem.tail _ (List.Mem.tail _ (List.Mem.tail _ (List.Mem.tail _ (List.Mem.tail _ (List.Mem.tail _ (List.Mem.tail _ (List.Mem.tail _ (List.Mem.tail _ (List.Mem.tail _ (List.Mem.tail _ (List.Mem.tail _ (List.Mem.tail _ (List.Mem.tail _ (List.Mem.tail _ (List.Mem.tail _ (List.Mem.head _)))))))))))))))))))))))))))))
theorem g_law_less : ("less" : Str) ∈ M_law.gl := List.Mem.tail _ (List.Mem.tail _ (List.Mem.tail _ (List.Mem.tail _ (List.Mem.tail _ (List.Mem.tail _ (List.Mem.tail _ (List.Mem.tail _ (List.Mem.tail _ (List.Mem.tail _ (List.Mem.tail _ (List.Mem.tail _ (List.Mem.tail _ (List.Mem.tail _ (List.Mem.tail _ (List.Mem.tail _ (List.Mem.tail _ (List.Mem.tail _ (List.Mem.tail _ (List.Mem.tail _ (List.Mem.tail _ (List.Mem.tail _ (List.Mem.tail _ (List.Mem.tail _ (List.Mem.tail _ (List.Mem.tail _ (List.Mem.tail _ (List.Mem.tail _ (List.Mem.tail _ (List.Mem.tail _ (List.Mem.head _))))))))))))))))))))))))))))))
theorem g_law_multiple : ("multiple" : Str) ∈ M_law.gl := List.Mem.tail _ (List.Mem.tail _ (List.Mem.tail _ (List.Mem.tail _ (List.Mem.tail _ (List.Mem.tail _ (List.Mem.tail _ (List.Mem.tail _ (List.Mem.tail _ (List.Mem.tail _ (List.Mem.tail _ (List.Mem.tail _ (List.Mem.tail _ (List.Mem.tail _ (List.Mem.tail _ (List.Mem.tail _ (List.Mem.tail _ (List.Mem.tail _ (List.Mem.tail _ (List.Mem.tail _ (List.Mem.tail _ (List.Mem.tail _ (List.Mem.tail _ (List.Mem.tail _ (List.Mem.tail _ (List.Mem.tail _ (List.Mem.tail _ (List.Mem.tail _ (List.Mem.tail _ (List.Mem.tail _ (List.Mem.tail _ (List.Mem.head _)))))))))))))))))))))))))))))))
theorem g_law_vector_of : ("vector_of" : Str) ∈ M_law.gl := List.Mem.tail _ (List.Mem.tail _ (List.Mem.tail _ (List.Mem.tail _ (List.Mem.tail _ (List.Mem.tail _ (List.Mem.tail _ (List.Mem.tail _ (List.Mem.tail _ (List.Mem.tail _ (List.Mem.tail _ (List.Mem.tail _ (List.Mem.tail _ (List.Mem.tail _ (List.Mem.tail _ (List.Mem.tail _ (List.Mem.tail _ (List.Mem.tail _ (List.Mem.tail _ (List.Mem.tail _ (List.Mem.tail _ (List.Mem.tail _ (List.Mem.tail _ (List.Mem.tail _ (List.Mem.tail _ (List.Mem.tail _ (List.Mem.tail _ (List.Mem.tail _ (List.Mem.tail _ (List.Mem.tail _ (List.Mem.tail _ (List.Mem.tail _ (List.Mem.head _))))))))))))))))))))))))))))))))
theorem g_law__law_added : ("_law_added" : Str) ∈ M_law.gl := List.Mem.tail _ (List.Mem.tail _ (List.Mem.tail _ (List.Mem.tail _ (List.Mem.tail _ (List.Mem.tail _ (List.Mem.tail _ (List.Mem.tail _ (List.Mem.tail _ (List.Mem.tail _ (List.Mem.tail _ (List.Mem.tail _ (List.Mem.tail _ (List.Mem.tail _ (List.Mem.tail _ (List.Mem.tail _ (List.Mem.tail _ (List.Mem.tail _ (List.Mem.tail _ (List.Mem.tail _ (List.Mem.tail _ (List.Mem.tail _ (List.Mem.tail _ (List.Mem.tail _ (List.Mem.tail _ (List.Mem.tail _ (List.Mem.tail _ (List.Mem.tail _ (List.Mem.tail _ (List.Mem.tail _ (List.Mem.tail _ (List.Mem.tail _ (List.Mem.tail _ (List.Mem.head _)))))))))))))))))))))))))))))))))
theorem g_law__law_less : ("_law_less" : Str) ∈ M_law.gl := List.Mem.tail _ (List.Mem.tail _ (List.Mem.tail _ (List.Mem.tail _ (List.Mem.tail _ (List.Mem.tail _ (List.Mem.tail _ (List.Mem.tail _ (List.Mem.tail _ (List.Mem.tail _ (List.Mem.tail _ (List.Mem.tail _ (List.Mem.tail _ (List.Mem.tail _ (List.Mem.tail _ (List.Mem.tail _ (List.Mem.tail _ (List.Mem.tail _ (List.Mem.tail _ (List.Mem.tail _ (List.Mem.tail _ (List.Mem.tail _ (List.Mem.tail _ (List.Mem.tail _ (List.Mem.tail _ (List.Mem.tail _ (List.Mem.tail _ (List.Mem.tail _ (List.Mem.tail _ (List.Mem.tail _ (List.Mem.tail _ (List.Mem.tail _ (List.Mem.tail _ (List.Mem.tail _ (List.Mem.head _))))))))))))))))))))))))))))))))))
theorem g_law__law_multiple : ("_law_multiple" : Str) ∈ M_law.gl := List.Mem.tail _ (List.Mem.tail _ (List.Mem.tail _ (List.Mem.tail _ (List.Mem.tail _ (List.Mem.tail _ (List.Mem.tail _ (List.Mem.tail _ (List.Mem.tail _ (List.Mem.tail _ (List.Mem.tail _ (List.Mem.tail _ (List.Mem.tail _ (List.Mem.tail _ (List.Mem.tail _ (List.Mem.tail _ (List.Mem.tail _ (List.Mem.tail _ (List.Mem.tail _ (List.Mem.tail _ (List.Mem.tail _ (List.Mem.tail _ (List.Mem.tail _ (List.Mem.tail _ (List.Mem.tail _ (List.Mem.tail _ (List.Mem.tail _ (List.Mem.tail _ (List.Mem.tail _ (List.Mem.tail _ (List.Mem.tail _ (List.Mem.tail _ (List.Mem.tail _ (List.Mem.tail _ (List.Mem.tail _ (List.Mem.head _)))))))))))))))))))))))))))))))))))
theorem g_law__law_vector : ("_law_vector" : Str) ∈ M_law.gl := List.Mem.tail _ (List.Mem.tail _ (List.Mem.tail _ (List.Mem.tail _ (List.Mem.tail _ (List.Mem.tail _ (List.Mem.tail _ (List.Mem.tail _ (List.Mem.tail _ (List.Mem.tail _ (List.Mem.tail _ (List.Mem.tail _ (List.Mem.tail _ (List.Mem.tail _ (List.Mem.tail _ (List.Mem.tail _ (List.Mem.tail _ (List.Mem.tail _ (List.Mem.tail _ (List.Mem.tail _ (List.Mem.tail _ (List.Mem.tail _ (List.Mem.tail _ (List.Mem.tail _ (List.Mem.tail _ (List.Mem.tail _ (List.Mem.tail _ (List.Mem.tail _ (List.Mem.tail _ (List.Mem.tail _ (List.Mem.tail _ (List.Mem.tail _ (List.Mem.tail _ (List.Mem.tail _ (List.Mem.tail _ (List.Mem.tail _ (List.Mem.head _))))))))))))))))))))))))))))))))))))
theorem g_law__law_alike : ("_law_alike" : Str) ∈ M_law.gl := List.Mem.tail _ (List.Mem.tail _ (List.Mem.tail _ (List.Mem.tail _ (List.Mem.tail _ (List.Mem.tail _ (List.Mem.tail _ (List.Mem.tail _ (List.Mem.tail _ (List.Mem.tail _ (List.Mem.tail _ (List.Mem.tail _ (List.Mem.tail _ (List.Mem.tail _ (List.Mem.tail _ (List.Mem.tail _ (List.Mem.tail _ (List.Mem.tail _ (List.Mem.tail _ (List.Mem.tail _ (List.Mem.tail _ (List.Mem.tail _ (List.Mem.tail _ (List.Mem.tail _ (List.Mem.tail _ (List.Mem.tail _ (List.Mem.tail _ (List.Mem.tail _ (List.Mem.tail _ (List.Mem.tail _ (List.Mem.tail _ (List.Mem.tail _ (List.Mem.tail _ (List.Mem.tail _ (List.Mem.tail _ (List.Mem.tail _ (List.Mem.tail _ (List.Mem.head _)))))))))))))))))))))))))))))))))))))

set_option hygiene false in
local macro_rules | `(tactic| walk_at "dw_we") => `(tactic| first
  | refine we_tuple ?_ | refine we_fresh (wf_list ?_) | refine we_fresh (wf_lc ?_) | refine we_neg ?_ | refine we_ifexp ?_ | refine we_and ?_ | refine we_or ?_ | refine we_one ?_ | refine we_not ?_)
set_option hygiene false in
local macro_rules | `(tactic| walk_at "dw_wt") => `(tactic| first
  | refine wt_eq ?_ | refine wt_ne ?_ | refine wt_lt ?_ | refine wt_le ?_ | refine wt_gt ?_ | refine wt_ge ?_ | refine wt_in ?_ | refine wt_notin ?_ | refine wt_not ?_ | refine wt_is ?_ | refine wt_isnot ?_ | refine wt_of_ww (ww_and ?_) | refine wt_of_ww (ww_or ?_) | refine wt_val ?_)
set_option hygiene false in
local macro_rules | `(tactic| walk_at "dw_d") => `(tactic| first
  | (guard_target = IxD _ _ _; first | refine d_ixT0 ?_ | refine d_ixT1 ?_ | refine d_ixT2 ?_ | refine d_ixT3 ?_ | refine d_ixL0 ?_ | refine d_ixL1 ?_ | refine d_ixL2 ?_)
  | (guard_target = AddD _ _ _; first | refine d_addI ?_ | refine d_addL ?_ ?_ | refine d_addT ?_ ?_ | refine d_addS ?_ ?_)
  | (guard_target = MulD _ _ _; first | refine d_mul ?_ ?_ | refine d_rep ?_ ?_ ?_ ?_ ?_)
  | (guard_target = SubD _ _ _; refine d_sub ?_)
  | (guard_target = EqD _ _ _; first | refine d_eqI ?_ | refine d_eqS ?_)
  | (guard_target = LtD _ _ _; refine d_lt ?_)
  | (guard_target = LeD _ _ _; refine d_le ?_)
  | (guard_target = PowD _ _ _; refine d_pow (by decide) ?_)
  | (guard_target = NegD _ _; refine d_neg ?_)
  | (guard_target = FDivD _ _ _; refine d_fdiv ?_ ?_)
  | (guard_target = ModD _ _ _; refine d_mod ?_ ?_)
  | (guard_target = IntD _ _; first | refine d_int ?_ | refine d_intB ?_)
  | (guard_target = AbsD _ _; refine d_abs ?_)
  | (guard_target = GcdD _ _ _; refine d_gcd ?_)
  | (guard_target = LenD _ _; first | refine d_lenL ?_ | refine d_lenT ?_)
  | (guard_target = SeqD _ _; first | refine d_seqL ?_ | refine d_seqT ?_)
  | (guard_target = ZipD _ _ _; first | refine d_zipL ?_ | refine d_zipT ?_)
  | (guard_target = SlD _ _ _ _; first | refine d_slL ?_ | refine d_slT ?_)
  | (guard_target = List.length _ < lim ∧ _; refine ⟨(by simp only [List.length_append, List.length_cons, List.length_nil]; exact lim_lt _ (by decide)), ?_⟩)
  | (guard_target = List.length _ + List.length _ ≤ lim ∧ _; refine ⟨(by simp only [List.length_append, List.length_cons, List.length_nil]; exact lim_n _ (by decide)), ?_⟩)
  | (guard_target = List.length _ ≤ lim ∧ _; refine ⟨(by simp only [List.length_cons, List.length_nil]; exact lim_n _ (by decide)), ?_⟩)
  | (guard_target = List.length _ ≤ lim; simp only [List.length_cons, List.length_nil]; exact lim_n _ (by decide))
  | (guard_target = _ ∧ _; first | refine br_dec (fun h => ?_) (fun h => ?_) | refine br_ndec (fun h => ?_) (fun h => ?_) | refine br_dec' (fun h => ?_) (fun h => ?_) | refine br_ndec' (fun h => ?_) (fun h => ?_) | refine br_tt ?_ | refine br_ff ?_)
  | refine ex_b ?_ | refine ex_i ?_ | refine ex_oneI ?_ | refine ex_twoI ?_ | refine ex_lst ?_ | refine ex_two ?_ | refine ex_par3 ?_ | fail)
set_option hygiene false in
local macro_rules | `(tactic| walk_at "dw_s") => `(tactic| first
  | refine ws_cons ?_ | refine ws_nil ?_)
set_option hygiene false in
local macro_rules | `(tactic| walk_at "dw_1") => `(tactic| first
  | refine w1_ret ?_ | refine w1_if ?_ | refine w1_doc ?_ | refine w1_pass ?_ | refine w1_break ?_ | refine w1_cont ?_ | refine w1_retN ?_)
set_option hygiene false in
local macro_rules | `(tactic| walk_at "dw_1n") => `(tactic| first
  | refine w1_ret ?_ | refine w1_doc ?_ | refine w1_pass ?_ | refine w1_break ?_ | refine w1_cont ?_ | refine w1_retN ?_)

set_option hygiene false in
local macro_rules | `(tactic| walk_at "st_fraction") => `(tactic| first
  | (guard_target = WB _ _ _ _ _ _; first | (guard_target = WB _ _ _ (.Name _ _) _ _; first | (guard_target = WB _ M_fraction _ (.Name "num" _) _ _; first | refine wb_mu 0 r_fraction_num rfl ?_ | refine wb_of ?_) | (guard_target = WB _ M_fraction _ (.Name "den" _) _ _; first | refine wb_mu 1 r_fraction_den rfl ?_ | refine wb_of ?_) | (guard_target = WB _ M_fraction _ (.Name "shared" _) _ _; first | refine wb_mu 2 r_fraction_shared rfl ?_ | refine wb_of ?_) | refine wb_of ?_) | refine wb_of ?_)
  | (guard_target = WE _ _ _ _ _ _; first
     | (guard_target = WE _ _ _ (.Name _ _) _ _; first | (guard_target = WE _ M_fraction _ (.Name "num" _) _ _; refine we_var 0 r_fraction_num rfl ?_) | (guard_target = WE _ M_fraction _ (.Name "den" _) _ _; refine we_var 1 r_fraction_den rfl ?_) | (guard_target = WE _ M_fraction _ (.Name "shared" _) _ _; refine we_var 2 r_fraction_shared rfl ?_))
     | (guard_target = WE _ _ _ (.Constant _ _ _) _ _; first | refine we_int ?_ | refine we_str ?_ | refine we_bool ?_ | refine we_none ?_)
     | (guard_target = WE _ _ _ (.Subscript _ _ _) _ _; first | refine we_ix ?_ | refine we_slice ?_)
     | (guard_target = WE _ _ _ (.Call (.Name _ _) _ _ _) _ _; first | (guard_target = WE _ M_fraction _ (.Call (.Name "gcd" _) _ _ _) _ _; refine we_gcd B.gcd g_fraction_gcd ?_))
     | (guard_target = WE _ _ _ (.BinOp _ _ _ _) _ _; first | refine we_add ?_ | refine we_sub ?_ | refine we_mul ?_ | refine we_mod ?_ | refine we_fdiv ?_ | refine we_pow ?_)
     | (guard_target = WE _ _ _ (.Compare _ _ _ _) _ _; first | refine we_eq ?_ | refine we_ne ?_ | refine we_lt ?_ | refine we_le ?_ | refine we_gt ?_ | refine we_ge ?_ | refine we_in ?_ | refine we_notin ?_)
     | walk_at "dw_we")
  | (guard_target = WT _ _ _ _ _ _; walk_at "dw_wt")
  | (guard_target = WL _ _ _ _ _ _; first | refine wl_cons ?_ | refine wl_nil ?_)
  | (guard_target = WW _ _ _ _ _ _; first | refine ww_and ?_ | refine ww_or ?_ | refine ww_and1 ?_ | refine ww_or1 ?_)
  | (guard_target = WO _ _ _ _ _ _; first | refine wo_none ?_ | refine wo_some ?_)
  | (guard_target = WF _ _ _ _ _ _; first | refine wf_list ?_ | refine wf_lc ?_)
  | (guard_target = WS _ _ _ _ _ _; first | refine ws_cons ?_ | refine ws_nil ?_)
  | (guard_target = W1 _ _ _ _ _ _; first | walk_at "dw_1" | (guard_target = W1 _ M_fraction _ (.Assign [(.Name "num" _)] (.List _ _) _) _ _; refine w1_set 0 t_fraction_num ?_) | (guard_target = W1 _ M_fraction _ (.Assign [(.Name "num" _)] (.ListComp _ _ _ _) _) _ _; refine w1_lc 0 l_fraction_num ?_) | (guard_target = W1 _ M_fraction _ (.Assign [(.Name "den" _)] (.List _ _) _) _ _; refine w1_set 1 t_fraction_den ?_) | (guard_target = W1 _ M_fraction _ (.Assign [(.Name "den" _)] (.ListComp _ _ _ _) _) _ _; refine w1_lc 1 l_fraction_den ?_) | (guard_target = W1 _ M_fraction _ (.Assign [(.Name "shared" _)] (.List _ _) _) _ _; refine w1_set 2 t_fraction_shared ?_) | (guard_target = W1 _ M_fraction _ (.Assign [(.Name "shared" _)] (.ListComp _ _ _ _) _) _ _; refine w1_lc 2 l_fraction_shared ?_) | ((first | (guard_target = W1 _ _ _ (.Assign [.Name _ _] (.Call _ _ _ _) _) _ _) | (guard_target = W1 _ _ _ (.Assign [.Name _ _] (.BinOp _ _ _ _) _) _ _) | (guard_target = W1 _ _ _ (.Assign [.Name _ _] (.Name _ _) _) _ _) | (guard_target = W1 _ _ _ (.Assign [.Name _ _] (.Subscript _ _ _) _) _ _) | (guard_target = W1 _ _ _ (.Assign [.Name _ _] (.Constant _ _ _) _) _ _) | (guard_target = W1 _ _ _ (.Assign [.Name _ _] (.Compare _ _ _ _) _) _ _) | (guard_target = W1 _ _ _ (.Assign [.Name _ _] (.BoolOp _ _ _) _) _ _) | (guard_target = W1 _ _ _ (.Assign [.Name _ _] (.IfExp _ _ _ _) _) _ _) | (guard_target = W1 _ _ _ (.Assign [.Name _ _] (.Tuple _ _ _) _) _ _) | (guard_target = W1 _ _ _ (.Assign [.Name _ _] (.UnaryOp _ _ _) _) _ _)); first | (guard_target = W1 _ M_fraction _ (.Assign [(.Name "num" _)] _ _) _ _; refine w1_set 0 t_fraction_num ?_) | (guard_target = W1 _ M_fraction _ (.Assign [(.Name "den" _)] _ _) _ _; refine w1_set 1 t_fraction_den ?_) | (guard_target = W1 _ M_fraction _ (.Assign [(.Name "shared" _)] _ _) _ _; refine w1_set 2 t_fraction_shared ?_)) | (guard_target = W1 _ _ _ (.AugAssign _ _ _ _) _ _; first | (guard_target = W1 _ M_fraction _ (.AugAssign (.Name "num" _) _ _ _) _ _; first | refine w1_addI 0 t_fraction_num rfl ?_ | refine w1_subI 0 t_fraction_num rfl ?_) | (guard_target = W1 _ M_fraction _ (.AugAssign (.Name "den" _) _ _ _) _ _; first | refine w1_addI 1 t_fraction_den rfl ?_ | refine w1_subI 1 t_fraction_den rfl ?_) | (guard_target = W1 _ M_fraction _ (.AugAssign (.Name "shared" _) _ _ _) _ _; first | refine w1_addI 2 t_fraction_shared rfl ?_ | refine w1_subI 2 t_fraction_shared rfl ?_)) | (guard_target = W1 _ _ _ (.Assign [.Tuple _ _ _] _ _) _ _; refine w1_asg ?_))
  | (guard_target = WI _ _ _ _ _ _ _; first | refine wi_seq ?_)
  | (guard_target = WG _ _ _ _ _ _ _; first | (guard_target = WG _ M_fraction _ (.Name "num" _) _ _ _; refine wg_name 0 t_fraction_num ?_) | (guard_target = WG _ M_fraction _ (.Name "den" _) _ _ _; refine wg_name 1 t_fraction_den ?_) | (guard_target = WG _ M_fraction _ (.Name "shared" _) _ _ _; refine wg_name 2 t_fraction_shared ?_) | refine wg_tup rfl ?_)
  | (guard_target = WH _ _ _ _ _ _ _; first | refine wh_cons ?_ | refine wh_nil ?_)
  | (guard_target = WV _ _ _ _ _ _ _ _; first | refine wv_tup rfl ?_)
  | (guard_target = WVs _ _ _ _ _ _ _ _; first | refine wvs_cons ?_ | refine wvs_nil ?_)
  | walk_at "dw_d"
  | fail)
set_option hygiene false in
local macro_rules | `(tactic| walk_at "st_whole") => `(tactic| first
  | (guard_target = WB _ _ _ _ _ _; first | (guard_target = WB _ _ _ (.Name _ _) _ _; first | (guard_target = WB _ M_whole _ (.Name "integer" _) _ _; first | refine wb_mu 0 r_whole_integer rfl ?_ | refine wb_of ?_) | refine wb_of ?_) | refine wb_of ?_)
  | (guard_target = WE _ _ _ _ _ _; first
     | (guard_target = WE _ _ _ (.Name _ _) _ _; first | (guard_target = WE _ M_whole _ (.Name "integer" _) _ _; refine we_var 0 r_whole_integer rfl ?_))
     | (guard_target = WE _ _ _ (.Constant _ _ _) _ _; first | refine we_int ?_ | refine we_str ?_ | refine we_bool ?_ | refine we_none ?_)
     | (guard_target = WE _ _ _ (.Subscript _ _ _) _ _; first | refine we_ix ?_ | refine we_slice ?_)
     | (guard_target = WE _ _ _ (.Call (.Name _ _) _ _ _) _ _; fail)
     | (guard_target = WE _ _ _ (.BinOp _ _ _ _) _ _; first | refine we_add ?_ | refine we_sub ?_ | refine we_mul ?_ | refine we_mod ?_ | refine we_fdiv ?_ | refine we_pow ?_)
     | (guard_target = WE _ _ _ (.Compare _ _ _ _) _ _; first | refine we_eq ?_ | refine we_ne ?_ | refine we_lt ?_ | refine we_le ?_ | refine we_gt ?_ | refine we_ge ?_ | refine we_in ?_ | refine we_notin ?_)
     | walk_at "dw_we")
  | (guard_target = WT _ _ _ _ _ _; walk_at "dw_wt")
  | (guard_target = WL _ _ _ _ _ _; first | refine wl_cons ?_ | refine wl_nil ?_)
  | (guard_target = WW _ _ _ _ _ _; first | refine ww_and ?_ | refine ww_or ?_ | refine ww_and1 ?_ | refine ww_or1 ?_)
  | (guard_target = WO _ _ _ _ _ _; first | refine wo_none ?_ | refine wo_some ?_)
  | (guard_target = WF _ _ _ _ _ _; first | refine wf_list ?_ | refine wf_lc ?_)
  | (guard_target = WS _ _ _ _ _ _; first | refine ws_cons ?_ | refine ws_nil ?_)
  | (guard_target = W1 _ _ _ _ _ _; first | walk_at "dw_1" | (guard_target = W1 _ M_whole _ (.Assign [(.Name "integer" _)] (.List _ _) _) _ _; refine w1_set 0 t_whole_integer ?_) | (guard_target = W1 _ M_whole _ (.Assign [(.Name "integer" _)] (.ListComp _ _ _ _) _) _ _; refine w1_lc 0 l_whole_integer ?_) | ((first | (guard_target = W1 _ _ _ (.Assign [.Name _ _] (.Call _ _ _ _) _) _ _) | (guard_target = W1 _ _ _ (.Assign [.Name _ _] (.BinOp _ _ _ _) _) _ _) | (guard_target = W1 _ _ _ (.Assign [.Name _ _] (.Name _ _) _) _ _) | (guard_target = W1 _ _ _ (.Assign [.Name _ _] (.Subscript _ _ _) _) _ _) | (guard_target = W1 _ _ _ (.Assign [.Name _ _] (.Constant _ _ _) _) _ _) | (guard_target = W1 _ _ _ (.Assign [.Name _ _] (.Compare _ _ _ _) _) _ _) | (guard_target = W1 _ _ _ (.Assign [.Name _ _] (.BoolOp _ _ _) _) _ _) | (guard_target = W1 _ _ _ (.Assign [.Name _ _] (.IfExp _ _ _ _) _) _ _) | (guard_target = W1 _ _ _ (.Assign [.Name _ _] (.Tuple _ _ _) _) _ _) | (guard_target = W1 _ _ _ (.Assign [.Name _ _] (.UnaryOp _ _ _) _) _ _)); first | (guard_target = W1 _ M_whole _ (.Assign [(.Name "integer" _)] _ _) _ _; refine w1_set 0 t_whole_integer ?_)) | (guard_target = W1 _ _ _ (.AugAssign _ _ _ _) _ _; first | (guard_target = W1 _ M_whole _ (.AugAssign (.Name "integer" _) _ _ _) _ _; first | refine w1_addI 0 t_whole_integer rfl ?_ | refine w1_subI 0 t_whole_integer rfl ?_)) | (guard_target = W1 _ _ _ (.Assign [.Tuple _ _ _] _ _) _ _; refine w1_asg ?_))
  | (guard_target = WI _ _ _ _ _ _ _; first | refine wi_seq ?_)
  | (guard_target = WG _ _ _ _ _ _ _; first | (guard_target = WG _ M_whole _ (.Name "integer" _) _ _ _; refine wg_name 0 t_whole_integer ?_) | refine wg_tup rfl ?_)
  | (guard_target = WH _ _ _ _ _ _ _; first | refine wh_cons ?_ | refine wh_nil ?_)
  | (guard_target = WV _ _ _ _ _ _ _ _; first | refine wv_tup rfl ?_)
  | (guard_target = WVs _ _ _ _ _ _ _ _; first | refine wvs_cons ?_ | refine wvs_nil ?_)
  | walk_at "dw_d"
  | fail)
set_option hygiene false in
local macro_rules | `(tactic| walk_at "st_plus") => `(tactic| first
  | (guard_target = WB _ _ _ _ _ _; first | (guard_target = WB _ _ _ (.Name _ _) _ _; first | (guard_target = WB _ M_plus _ (.Name "one" _) _ _; first | refine wb_mu 0 r_plus_one rfl ?_ | refine wb_of ?_) | (guard_target = WB _ M_plus _ (.Name "other" _) _ _; first | refine wb_mu 1 r_plus_other rfl ?_ | refine wb_of ?_) | refine wb_of ?_) | refine wb_of ?_)
  | (guard_target = WE _ _ _ _ _ _; first
     | (guard_target = WE _ _ _ (.Name _ _) _ _; first | (guard_target = WE _ M_plus _ (.Name "one" _) _ _; refine we_var 0 r_plus_one rfl ?_) | (guard_target = WE _ M_plus _ (.Name "other" _) _ _; refine we_var 1 r_plus_other rfl ?_))
     | (guard_target = WE _ _ _ (.Constant _ _ _) _ _; first | refine we_int ?_ | refine we_str ?_ | refine we_bool ?_ | refine we_none ?_)
     | (guard_target = WE _ _ _ (.Subscript _ _ _) _ _; first | refine we_ix ?_ | refine we_slice ?_)
     | (guard_target = WE _ _ _ (.Call (.Name _ _) _ _ _) _ _; first | (guard_target = WE _ M_plus _ (.Call (.Name "fraction" _) _ _ _) _ _; first | refine we_call f_fraction g_plus_fraction (by omega) ?_ | refine we_call0 f_fraction g_plus_fraction (by omega) ?_))
     | (guard_target = WE _ _ _ (.BinOp _ _ _ _) _ _; first | refine we_add ?_ | refine we_sub ?_ | refine we_mul ?_ | refine we_mod ?_ | refine we_fdiv ?_ | refine we_pow ?_)
     | (guard_target = WE _ _ _ (.Compare _ _ _ _) _ _; first | refine we_eq ?_ | refine we_ne ?_ | refine we_lt ?_ | refine we_le ?_ | refine we_gt ?_ | refine we_ge ?_ | refine we_in ?_ | refine we_notin ?_)
     | walk_at "dw_we")
  | (guard_target = WT _ _ _ _ _ _; walk_at "dw_wt")
  | (guard_target = WL _ _ _ _ _ _; first | refine wl_cons ?_ | refine wl_nil ?_)
  | (guard_target = WW _ _ _ _ _ _; first | refine ww_and ?_ | refine ww_or ?_ | refine ww_and1 ?_ | refine ww_or1 ?_)
  | (guard_target = WO _ _ _ _ _ _; first | refine wo_none ?_ | refine wo_some ?_)
  | (guard_target = WF _ _ _ _ _ _; first | refine wf_list ?_ | refine wf_lc ?_)
  | (guard_target = WS _ _ _ _ _ _; first | refine ws_cons ?_ | refine ws_nil ?_)
  | (guard_target = W1 _ _ _ _ _ _; first | walk_at "dw_1" | (guard_target = W1 _ M_plus _ (.Assign [(.Name "one" _)] (.List _ _) _) _ _; refine w1_set 0 t_plus_one ?_) | (guard_target = W1 _ M_plus _ (.Assign [(.Name "one" _)] (.ListComp _ _ _ _) _) _ _; refine w1_lc 0 l_plus_one ?_) | (guard_target = W1 _ M_plus _ (.Assign [(.Name "other" _)] (.List _ _) _) _ _; refine w1_set 1 t_plus_other ?_) | (guard_target = W1 _ M_plus _ (.Assign [(.Name "other" _)] (.ListComp _ _ _ _) _) _ _; refine w1_lc 1 l_plus_other ?_) | ((first | (guard_target = W1 _ _ _ (.Assign [.Name _ _] (.Call _ _ _ _) _) _ _) | (guard_target = W1 _ _ _ (.Assign [.Name _ _] (.BinOp _ _ _ _) _) _ _) | (guard_target = W1 _ _ _ (.Assign [.Name _ _] (.Name _ _) _) _ _) | (guard_target = W1 _ _ _ (.Assign [.Name _ _] (.Subscript _ _ _) _) _ _) | (guard_target = W1 _ _ _ (.Assign [.Name _ _] (.Constant _ _ _) _) _ _) | (guard_target = W1 _ _ _ (.Assign [.Name _ _] (.Compare _ _ _ _) _) _ _) | (guard_target = W1 _ _ _ (.Assign [.Name _ _] (.BoolOp _ _ _) _) _ _) | (guard_target = W1 _ _ _ (.Assign [.Name _ _] (.IfExp _ _ _ _) _) _ _) | (guard_target = W1 _ _ _ (.Assign [.Name _ _] (.Tuple _ _ _) _) _ _) | (guard_target = W1 _ _ _ (.Assign [.Name _ _] (.UnaryOp _ _ _) _) _ _)); first | (guard_target = W1 _ M_plus _ (.Assign [(.Name "one" _)] _ _) _ _; refine w1_set 0 t_plus_one ?_) | (guard_target = W1 _ M_plus _ (.Assign [(.Name "other" _)] _ _) _ _; refine w1_set 1 t_plus_other ?_)) | (guard_target = W1 _ _ _ (.AugAssign _ _ _ _) _ _; first | (guard_target = W1 _ M_plus _ (.AugAssign (.Name "one" _) _ _ _) _ _; first | refine w1_addI 0 t_plus_one rfl ?_ | refine w1_subI 0 t_plus_one rfl ?_) | (guard_target = W1 _ M_plus _ (.AugAssign (.Name "other" _) _ _ _) _ _; first | refine w1_addI 1 t_plus_other rfl ?_ | refine w1_subI 1 t_plus_other rfl ?_)) | (guard_target = W1 _ _ _ (.Assign [.Tuple _ _ _] _ _) _ _; refine w1_asg ?_))
  | (guard_target = WI _ _ _ _ _ _ _; first | refine wi_seq ?_)
  | (guard_target = WG _ _ _ _ _ _ _; first | (guard_target = WG _ M_plus _ (.Name "one" _) _ _ _; refine wg_name 0 t_plus_one ?_) | (guard_target = WG _ M_plus _ (.Name "other" _) _ _ _; refine wg_name 1 t_plus_other ?_) | refine wg_tup rfl ?_)
  | (guard_target = WH _ _ _ _ _ _ _; first | refine wh_cons ?_ | refine wh_nil ?_)
  | (guard_target = WV _ _ _ _ _ _ _ _; first | refine wv_tup rfl ?_)
  | (guard_target = WVs _ _ _ _ _ _ _ _; first | refine wvs_cons ?_ | refine wvs_nil ?_)
  | walk_at "dw_d"
  | fail)
set_option hygiene false in
local macro_rules | `(tactic| walk_at "st_minus") => `(tactic| first
  | (guard_target = WB _ _ _ _ _ _; first | (guard_target = WB _ _ _ (.Name _ _) _ _; first | (guard_target = WB _ M_minus _ (.Name "one" _) _ _; first | refine wb_mu 0 r_minus_one rfl ?_ | refine wb_of ?_) | (guard_target = WB _ M_minus _ (.Name "other" _) _ _; first | refine wb_mu 1 r_minus_other rfl ?_ | refine wb_of ?_) | refine wb_of ?_) | refine wb_of ?_)
  | (guard_target = WE _ _ _ _ _ _; first
     | (guard_target = WE _ _ _ (.Name _ _) _ _; first | (guard_target = WE _ M_minus _ (.Name "one" _) _ _; refine we_var 0 r_minus_one rfl ?_) | (guard_target = WE _ M_minus _ (.Name "other" _) _ _; refine we_var 1 r_minus_other rfl ?_))
     | (guard_target = WE _ _ _ (.Constant _ _ _) _ _; first | refine we_int ?_ | refine we_str ?_ | refine we_bool ?_ | refine we_none ?_)
     | (guard_target = WE _ _ _ (.Subscript _ _ _) _ _; first | refine we_ix ?_ | refine we_slice ?_)
     | (guard_target = WE _ _ _ (.Call (.Name _ _) _ _ _) _ _; first | (guard_target = WE _ M_minus _ (.Call (.Name "fraction" _) _ _ _) _ _; first | refine we_call f_fraction g_minus_fraction (by omega) ?_ | refine we_call0 f_fraction g_minus_fraction (by omega) ?_))
     | (guard_target = WE _ _ _ (.BinOp _ _ _ _) _ _; first | refine we_add ?_ | refine we_sub ?_ | refine we_mul ?_ | refine we_mod ?_ | refine we_fdiv ?_ | refine we_pow ?_)
     | (guard_target = WE _ _ _ (.Compare _ _ _ _) _ _; first | refine we_eq ?_ | refine we_ne ?_ | refine we_lt ?_ | refine we_le ?_ | refine we_gt ?_ | refine we_ge ?_ | refine we_in ?_ | refine we_notin ?_)
     | walk_at "dw_we")
  | (guard_target = WT _ _ _ _ _ _; walk_at "dw_wt")
  | (guard_target = WL _ _ _ _ _ _; first | refine wl_cons ?_ | refine wl_nil ?_)
  | (guard_target = WW _ _ _ _ _ _; first | refine ww_and ?_ | refine ww_or ?_ | refine ww_and1 ?_ | refine ww_or1 ?_)
  | (guard_target = WO _ _ _ _ _ _; first | refine wo_none ?_ | refine wo_some ?_)
  | (guard_target = WF _ _ _ _ _ _; first | refine wf_list ?_ | refine wf_lc ?_)
  | (guard_target = WS _ _ _ _ _ _; first | refine ws_cons ?_ | refine ws_nil ?_)
  | (guard_target = W1 _ _ _ _ _ _; first | walk_at "dw_1" | (guard_target = W1 _ M_minus _ (.Assign [(.Name "one" _)] (.List _ _) _) _ _; refine w1_set 0 t_minus_one ?_) | (guard_target = W1 _ M_minus _ (.Assign [(.Name "one" _)] (.ListComp _ _ _ _) _) _ _; refine w1_lc 0 l_minus_one ?_) | (guard_target = W1 _ M_minus _ (.Assign [(.Name "other" _)] (.List _ _) _) _ _; refine w1_set 1 t_minus_other ?_) | (guard_target = W1 _ M_minus _ (.Assign [(.Name "other" _)] (.ListComp _ _ _ _) _) _ _; refine w1_lc 1 l_minus_other ?_) | ((first | (guard_target = W1 _ _ _ (.Assign [.Name _ _] (.Call _ _ _ _) _) _ _) | (guard_target = W1 _ _ _ (.Assign [.Name _ _] (.BinOp _ _ _ _) _) _ _) | (guard_target = W1 _ _ _ (.Assign [.Name _ _] (.Name _ _) _) _ _) | (guard_target = W1 _ _ _ (.Assign [.Name _ _] (.Subscript _ _ _) _) _ _) | (guard_target = W1 _ _ _ (.Assign [.Name _ _] (.Constant _ _ _) _) _ _) | (guard_target = W1 _ _ _ (.Assign [.Name _ _] (.Compare _ _ _ _) _) _ _) | (guard_target = W1 _ _ _ (.Assign [.Name _ _] (.BoolOp _ _ _) _) _ _) | (guard_target = W1 _ _ _ (.Assign [.Name _ _] (.IfExp _ _ _ _) _) _ _) | (guard_target = W1 _ _ _ (.Assign [.Name _ _] (.Tuple _ _ _) _) _ _) | (guard_target = W1 _ _ _ (.Assign [.Name _ _] (.UnaryOp _ _ _) _) _ _)); first | (guard_target = W1 _ M_minus _ (.Assign [(.Name "one" _)] _ _) _ _; refine w1_set 0 t_minus_one ?_) | (guard_target = W1 _ M_minus _ (.Assign [(.Name "other" _)] _ _) _ _; refine w1_set 1 t_minus_other ?_)) | (guard_target = W1 _ _ _ (.AugAssign _ _ _ _) _ _; first | (guard_target = W1 _ M_minus _ (.AugAssign (.Name "one" _) _ _ _) _ _; first | refine w1_addI 0 t_minus_one rfl ?_ | refine w1_subI 0 t_minus_one rfl ?_) | (guard_target = W1 _ M_minus _ (.AugAssign (.Name "other" _) _ _ _) _ _; first | refine w1_addI 1 t_minus_other rfl ?_ | refine w1_subI 1 t_minus_other rfl ?_)) | (guard_target = W1 _ _ _ (.Assign [.Tuple _ _ _] _ _) _ _; refine w1_asg ?_))
  | (guard_target = WI _ _ _ _ _ _ _; first | refine wi_seq ?_)
  | (guard_target = WG _ _ _ _ _ _ _; first | (guard_target = WG _ M_minus _ (.Name "one" _) _ _ _; refine wg_name 0 t_minus_one ?_) | (guard_target = WG _ M_minus _ (.Name "other" _) _ _ _; refine wg_name 1 t_minus_other ?_) | refine wg_tup rfl ?_)
  | (guard_target = WH _ _ _ _ _ _ _; first | refine wh_cons ?_ | refine wh_nil ?_)
  | (guard_target = WV _ _ _ _ _ _ _ _; first | refine wv_tup rfl ?_)
  | (guard_target = WVs _ _ _ _ _ _ _ _; first | refine wvs_cons ?_ | refine wvs_nil ?_)
  | walk_at "dw_d"
  | fail)
set_option hygiene false in
local macro_rules | `(tactic| walk_at "st_times") => `(tactic| first
  | (guard_target = WB _ _ _ _ _ _; first | (guard_target = WB _ _ _ (.Name _ _) _ _; first | (guard_target = WB _ M_times _ (.Name "one" _) _ _; first | refine wb_mu 0 r_times_one rfl ?_ | refine wb_of ?_) | (guard_target = WB _ M_times _ (.Name "other" _) _ _; first | refine wb_mu 1 r_times_other rfl ?_ | refine wb_of ?_) | refine wb_of ?_) | refine wb_of ?_)
  | (guard_target = WE _ _ _ _ _ _; first
     | (guard_target = WE _ _ _ (.Name _ _) _ _; first | (guard_target = WE _ M_times _ (.Name "one" _) _ _; refine we_var 0 r_times_one rfl ?_) | (guard_target = WE _ M_times _ (.Name "other" _) _ _; refine we_var 1 r_times_other rfl ?_))
     | (guard_target = WE _ _ _ (.Constant _ _ _) _ _; first | refine we_int ?_ | refine we_str ?_ | refine we_bool ?_ | refine we_none ?_)
     | (guard_target = WE _ _ _ (.Subscript _ _ _) _ _; first | refine we_ix ?_ | refine we_slice ?_)
     | (guard_target = WE _ _ _ (.Call (.Name _ _) _ _ _) _ _; first | (guard_target = WE _ M_times _ (.Call (.Name "fraction" _) _ _ _) _ _; first | refine we_call f_fraction g_times_fraction (by omega) ?_ | refine we_call0 f_fraction g_times_fraction (by omega) ?_))
     | (guard_target = WE _ _ _ (.BinOp _ _ _ _) _ _; first | refine we_add ?_ | refine we_sub ?_ | refine we_mul ?_ | refine we_mod ?_ | refine we_fdiv ?_ | refine we_pow ?_)
     | (guard_target = WE _ _ _ (.Compare _ _ _ _) _ _; first | refine we_eq ?_ | refine we_ne ?_ | refine we_lt ?_ | refine we_le ?_ | refine we_gt ?_ | refine we_ge ?_ | refine we_in ?_ | refine we_notin ?_)
     | walk_at "dw_we")
  | (guard_target = WT _ _ _ _ _ _; walk_at "dw_wt")
  | (guard_target = WL _ _ _ _ _ _; first | refine wl_cons ?_ | refine wl_nil ?_)
  | (guard_target = WW _ _ _ _ _ _; first | refine ww_and ?_ | refine ww_or ?_ | refine ww_and1 ?_ | refine ww_or1 ?_)
  | (guard_target = WO _ _ _ _ _ _; first | refine wo_none ?_ | refine wo_some ?_)
  | (guard_target = WF _ _ _ _ _ _; first | refine wf_list ?_ | refine wf_lc ?_)
  | (guard_target = WS _ _ _ _ _ _; first | refine ws_cons ?_ | refine ws_nil ?_)
  | (guard_target = W1 _ _ _ _ _ _; first | walk_at "dw_1" | (guard_target = W1 _ M_times _ (.Assign [(.Name "one" _)] (.List _ _) _) _ _; refine w1_set 0 t_times_one ?_) | (guard_target = W1 _ M_times _ (.Assign [(.Name "one" _)] (.ListComp _ _ _ _) _) _ _; refine w1_lc 0 l_times_one ?_) | (guard_target = W1 _ M_times _ (.Assign [(.Name "other" _)] (.List _ _) _) _ _; refine w1_set 1 t_times_other ?_) | (guard_target = W1 _ M_times _ (.Assign [(.Name "other" _)] (.ListComp _ _ _ _) _) _ _; refine w1_lc 1 l_times_other ?_) | ((first | (guard_target = W1 _ _ _ (.Assign [.Name _ _] (.Call _ _ _ _) _) _ _) | (guard_target = W1 _ _ _ (.Assign [.Name _ _] (.BinOp _ _ _ _) _) _ _) | (guard_target = W1 _ _ _ (.Assign [.Name _ _] (.Name _ _) _) _ _) | (guard_target = W1 _ _ _ (.Assign [.Name _ _] (.Subscript _ _ _) _) _ _) | (guard_target = W1 _ _ _ (.Assign [.Name _ _] (.Constant _ _ _) _) _ _) | (guard_target = W1 _ _ _ (.Assign [.Name _ _] (.Compare _ _ _ _) _) _ _) | (guard_target = W1 _ _ _ (.Assign [.Name _ _] (.BoolOp _ _ _) _) _ _) | (guard_target = W1 _ _ _ (.Assign [.Name _ _] (.IfExp _ _ _ _) _) _ _) | (guard_target = W1 _ _ _ (.Assign [.Name _ _] (.Tuple _ _ _) _) _ _) | (guard_target = W1 _ _ _ (.Assign [.Name _ _] (.UnaryOp _ _ _) _) _ _)); first | (guard_target = W1 _ M_times _ (.Assign [(.Name "one" _)] _ _) _ _; refine w1_set 0 t_times_one ?_) | (guard_target = W1 _ M_times _ (.Assign [(.Name "other" _)] _ _) _ _; refine w1_set 1 t_times_other ?_)) | (guard_target = W1 _ _ _ (.AugAssign _ _ _ _) _ _; first | (guard_target = W1 _ M_times _ (.AugAssign (.Name "one" _) _ _ _) _ _; first | refine w1_addI 0 t_times_one rfl ?_ | refine w1_subI 0 t_times_one rfl ?_) | (guard_target = W1 _ M_times _ (.AugAssign (.Name "other" _) _ _ _) _ _; first | refine w1_addI 1 t_times_other rfl ?_ | refine w1_subI 1 t_times_other rfl ?_)) | (guard_target = W1 _ _ _ (.Assign [.Tuple _ _ _] _ _) _ _; refine w1_asg ?_))
  | (guard_target = WI _ _ _ _ _ _ _; first | refine wi_seq ?_)
  | (guard_target = WG _ _ _ _ _ _ _; first | (guard_target = WG _ M_times _ (.Name "one" _) _ _ _; refine wg_name 0 t_times_one ?_) | (guard_target = WG _ M_times _ (.Name "other" _) _ _ _; refine wg_name 1 t_times_other ?_) | refine wg_tup rfl ?_)
  | (guard_target = WH _ _ _ _ _ _ _; first | refine wh_cons ?_ | refine wh_nil ?_)
  | (guard_target = WV _ _ _ _ _ _ _ _; first | refine wv_tup rfl ?_)
  | (guard_target = WVs _ _ _ _ _ _ _ _; first | refine wvs_cons ?_ | refine wvs_nil ?_)
  | walk_at "dw_d"
  | fail)
set_option hygiene false in
local macro_rules | `(tactic| walk_at "st_over") => `(tactic| first
  | (guard_target = WB _ _ _ _ _ _; first | (guard_target = WB _ _ _ (.Name _ _) _ _; first | (guard_target = WB _ M_over _ (.Name "one" _) _ _; first | refine wb_mu 0 r_over_one rfl ?_ | refine wb_of ?_) | (guard_target = WB _ M_over _ (.Name "other" _) _ _; first | refine wb_mu 1 r_over_other rfl ?_ | refine wb_of ?_) | refine wb_of ?_) | refine wb_of ?_)
  | (guard_target = WE _ _ _ _ _ _; first
     | (guard_target = WE _ _ _ (.Name _ _) _ _; first | (guard_target = WE _ M_over _ (.Name "one" _) _ _; refine we_var 0 r_over_one rfl ?_) | (guard_target = WE _ M_over _ (.Name "other" _) _ _; refine we_var 1 r_over_other rfl ?_))
     | (guard_target = WE _ _ _ (.Constant _ _ _) _ _; first | refine we_int ?_ | refine we_str ?_ | refine we_bool ?_ | refine we_none ?_)
     | (guard_target = WE _ _ _ (.Subscript _ _ _) _ _; first | refine we_ix ?_ | refine we_slice ?_)
     | (guard_target = WE _ _ _ (.Call (.Name _ _) _ _ _) _ _; first | (guard_target = WE _ M_over _ (.Call (.Name "fraction" _) _ _ _) _ _; first | refine we_call f_fraction g_over_fraction (by omega) ?_ | refine we_call0 f_fraction g_over_fraction (by omega) ?_))
     | (guard_target = WE _ _ _ (.BinOp _ _ _ _) _ _; first | refine we_add ?_ | refine we_sub ?_ | refine we_mul ?_ | refine we_mod ?_ | refine we_fdiv ?_ | refine we_pow ?_)
     | (guard_target = WE _ _ _ (.Compare _ _ _ _) _ _; first | refine we_eq ?_ | refine we_ne ?_ | refine we_lt ?_ | refine we_le ?_ | refine we_gt ?_ | refine we_ge ?_ | refine we_in ?_ | refine we_notin ?_)
     | walk_at "dw_we")
  | (guard_target = WT _ _ _ _ _ _; walk_at "dw_wt")
  | (guard_target = WL _ _ _ _ _ _; first | refine wl_cons ?_ | refine wl_nil ?_)
  | (guard_target = WW _ _ _ _ _ _; first | refine ww_and ?_ | refine ww_or ?_ | refine ww_and1 ?_ | refine ww_or1 ?_)
  | (guard_target = WO _ _ _ _ _ _; first | refine wo_none ?_ | refine wo_some ?_)
  | (guard_target = WF _ _ _ _ _ _; first | refine wf_list ?_ | refine wf_lc ?_)
  | (guard_target = WS _ _ _ _ _ _; first | refine ws_cons ?_ | refine ws_nil ?_)
  | (guard_target = W1 _ _ _ _ _ _; first | walk_at "dw_1" | (guard_target = W1 _ M_over _ (.Assign [(.Name "one" _)] (.List _ _) _) _ _; refine w1_set 0 t_over_one ?_) | (guard_target = W1 _ M_over _ (.Assign [(.Name "one" _)] (.ListComp _ _ _ _) _) _ _; refine w1_lc 0 l_over_one ?_) | (guard_target = W1 _ M_over _ (.Assign [(.Name "other" _)] (.List _ _) _) _ _; refine w1_set 1 t_over_other ?_) | (guard_target = W1 _ M_over _ (.Assign [(.Name "other" _)] (.ListComp _ _ _ _) _) _ _; refine w1_lc 1 l_over_other ?_) | ((first | (guard_target = W1 _ _ _ (.Assign [.Name _ _] (.Call _ _ _ _) _) _ _) | (guard_target = W1 _ _ _ (.Assign [.Name _ _] (.BinOp _ _ _ _) _) _ _) | (guard_target = W1 _ _ _ (.Assign [.Name _ _] (.Name _ _) _) _ _) | (guard_target = W1 _ _ _ (.Assign [.Name _ _] (.Subscript _ _ _) _) _ _) | (guard_target = W1 _ _ _ (.Assign [.Name _ _] (.Constant _ _ _) _) _ _) | (guard_target = W1 _ _ _ (.Assign [.Name _ _] (.Compare _ _ _ _) _) _ _) | (guard_target = W1 _ _ _ (.Assign [.Name _ _] (.BoolOp _ _ _) _) _ _) | (guard_target = W1 _ _ _ (.Assign [.Name _ _] (.IfExp _ _ _ _) _) _ _) | (guard_target = W1 _ _ _ (.Assign [.Name _ _] (.Tuple _ _ _) _) _ _) | (guard_target = W1 _ _ _ (.Assign [.Name _ _] (.UnaryOp _ _ _) _) _ _)); first | (guard_target = W1 _ M_over _ (.Assign [(.Name "one" _)] _ _) _ _; refine w1_set 0 t_over_one ?_) | (guard_target = W1 _ M_over _ (.Assign [(.Name "other" _)] _ _) _ _; refine w1_set 1 t_over_other ?_)) | (guard_target = W1 _ _ _ (.AugAssign _ _ _ _) _ _; first | (guard_target = W1 _ M_over _ (.AugAssign (.Name "one" _) _ _ _) _ _; first | refine w1_addI 0 t_over_one rfl ?_ | refine w1_subI 0 t_over_one rfl ?_) | (guard_target = W1 _ M_over _ (.AugAssign (.Name "other" _) _ _ _) _ _; first | refine w1_addI 1 t_over_other rfl ?_ | refine w1_subI 1 t_over_other rfl ?_)) | (guard_target = W1 _ _ _ (.Assign [.Tuple _ _ _] _ _) _ _; refine w1_asg ?_))
  | (guard_target = WI _ _ _ _ _ _ _; first | refine wi_seq ?_)
  | (guard_target = WG _ _ _ _ _ _ _; first | (guard_target = WG _ M_over _ (.Name "one" _) _ _ _; refine wg_name 0 t_over_one ?_) | (guard_target = WG _ M_over _ (.Name "other" _) _ _ _; refine wg_name 1 t_over_other ?_) | refine wg_tup rfl ?_)
  | (guard_target = WH _ _ _ _ _ _ _; first | refine wh_cons ?_ | refine wh_nil ?_)
  | (guard_target = WV _ _ _ _ _ _ _ _; first | refine wv_tup rfl ?_)
  | (guard_target = WVs _ _ _ _ _ _ _ _; first | refine wvs_cons ?_ | refine wvs_nil ?_)
  | walk_at "dw_d"
  | fail)
set_option hygiene false in
local macro_rules | `(tactic| walk_at "st_is_less") => `(tactic| first
  | (guard_target = WB _ _ _ _ _ _; first | (guard_target = WB _ _ _ (.Name _ _) _ _; first | (guard_target = WB _ M_is_less _ (.Name "one" _) _ _; first | refine wb_mu 0 r_is_less_one rfl ?_ | refine wb_of ?_) | (guard_target = WB _ M_is_less _ (.Name "other" _) _ _; first | refine wb_mu 1 r_is_less_other rfl ?_ | refine wb_of ?_) | refine wb_of ?_) | refine wb_of ?_)
  | (guard_target = WE _ _ _ _ _ _; first
     | (guard_target = WE _ _ _ (.Name _ _) _ _; first | (guard_target = WE _ M_is_less _ (.Name "one" _) _ _; refine we_var 0 r_is_less_one rfl ?_) | (guard_target = WE _ M_is_less _ (.Name "other" _) _ _; refine we_var 1 r_is_less_other rfl ?_))
     | (guard_target = WE _ _ _ (.Constant _ _ _) _ _; first | refine we_int ?_ | refine we_str ?_ | refine we_bool ?_ | refine we_none ?_)
     | (guard_target = WE _ _ _ (.Subscript _ _ _) _ _; first | refine we_ix ?_ | refine we_slice ?_)
     | (guard_target = WE _ _ _ (.Call (.Name _ _) _ _ _) _ _; fail)
     | (guard_target = WE _ _ _ (.BinOp _ _ _ _) _ _; first | refine we_add ?_ | refine we_sub ?_ | refine we_mul ?_ | refine we_mod ?_ | refine we_fdiv ?_ | refine we_pow ?_)
     | (guard_target = WE _ _ _ (.Compare _ _ _ _) _ _; first | refine we_eq ?_ | refine we_ne ?_ | refine we_lt ?_ | refine we_le ?_ | refine we_gt ?_ | refine we_ge ?_ | refine we_in ?_ | refine we_notin ?_)
     | walk_at "dw_we")
  | (guard_target = WT _ _ _ _ _ _; walk_at "dw_wt")
  | (guard_target = WL _ _ _ _ _ _; first | refine wl_cons ?_ | refine wl_nil ?_)
  | (guard_target = WW _ _ _ _ _ _; first | refine ww_and ?_ | refine ww_or ?_ | refine ww_and1 ?_ | refine ww_or1 ?_)
  | (guard_target = WO _ _ _ _ _ _; first | refine wo_none ?_ | refine wo_some ?_)
  | (guard_target = WF _ _ _ _ _ _; first | refine wf_list ?_ | refine wf_lc ?_)
  | (guard_target = WS _ _ _ _ _ _; first | refine ws_cons ?_ | refine ws_nil ?_)
  | (guard_target = W1 _ _ _ _ _ _; first | walk_at "dw_1" | (guard_target = W1 _ M_is_less _ (.Assign [(.Name "one" _)] (.List _ _) _) _ _; refine w1_set 0 t_is_less_one ?_) | (guard_target = W1 _ M_is_less _ (.Assign [(.Name "one" _)] (.ListComp _ _ _ _) _) _ _; refine w1_lc 0 l_is_less_one ?_) | (guard_target = W1 _ M_is_less _ (.Assign [(.Name "other" _)] (.List _ _) _) _ _; refine w1_set 1 t_is_less_other ?_) | (guard_target = W1 _ M_is_less _ (.Assign [(.Name "other" _)] (.ListComp _ _ _ _) _) _ _; refine w1_lc 1 l_is_less_other ?_) | ((first | (guard_target = W1 _ _ _ (.Assign [.Name _ _] (.Call _ _ _ _) _) _ _) | (guard_target = W1 _ _ _ (.Assign [.Name _ _] (.BinOp _ _ _ _) _) _ _) | (guard_target = W1 _ _ _ (.Assign [.Name _ _] (.Name _ _) _) _ _) | (guard_target = W1 _ _ _ (.Assign [.Name _ _] (.Subscript _ _ _) _) _ _) | (guard_target = W1 _ _ _ (.Assign [.Name _ _] (.Constant _ _ _) _) _ _) | (guard_target = W1 _ _ _ (.Assign [.Name _ _] (.Compare _ _ _ _) _) _ _) | (guard_target = W1 _ _ _ (.Assign [.Name _ _] (.BoolOp _ _ _) _) _ _) | (guard_target = W1 _ _ _ (.Assign [.Name _ _] (.IfExp _ _ _ _) _) _ _) | (guard_target = W1 _ _ _ (.Assign [.Name _ _] (.Tuple _ _ _) _) _ _) | (guard_target = W1 _ _ _ (.Assign [.Name _ _] (.UnaryOp _ _ _) _) _ _)); first | (guard_target = W1 _ M_is_less _ (.Assign [(.Name "one" _)] _ _) _ _; refine w1_set 0 t_is_less_one ?_) | (guard_target = W1 _ M_is_less _ (.Assign [(.Name "other" _)] _ _) _ _; refine w1_set 1 t_is_less_other ?_)) | (guard_target = W1 _ _ _ (.AugAssign _ _ _ _) _ _; first | (guard_target = W1 _ M_is_less _ (.AugAssign (.Name "one" _) _ _ _) _ _; first | refine w1_addI 0 t_is_less_one rfl ?_ | refine w1_subI 0 t_is_less_one rfl ?_) | (guard_target = W1 _ M_is_less _ (.AugAssign (.Name "other" _) _ _ _) _ _; first | refine w1_addI 1 t_is_less_other rfl ?_ | refine w1_subI 1 t_is_less_other rfl ?_)) | (guard_target = W1 _ _ _ (.Assign [.Tuple _ _ _] _ _) _ _; refine w1_asg ?_))
  | (guard_target = WI _ _ _ _ _ _ _; first | refine wi_seq ?_)
  | (guard_target = WG _ _ _ _ _ _ _; first | (guard_target = WG _ M_is_less _ (.Name "one" _) _ _ _; refine wg_name 0 t_is_less_one ?_) | (guard_target = WG _ M_is_less _ (.Name "other" _) _ _ _; refine wg_name 1 t_is_less_other ?_) | refine wg_tup rfl ?_)
  | (guard_target = WH _ _ _ _ _ _ _; first | refine wh_cons ?_ | refine wh_nil ?_)
  | (guard_target = WV _ _ _ _ _ _ _ _; first | refine wv_tup rfl ?_)
  | (guard_target = WVs _ _ _ _ _ _ _ _; first | refine wvs_cons ?_ | refine wvs_nil ?_)
  | walk_at "dw_d"
  | fail)
set_option hygiene false in
local macro_rules | `(tactic| walk_at "st_is_at_most") => `(tactic| first
  | (guard_target = WB _ _ _ _ _ _; first | (guard_target = WB _ _ _ (.Name _ _) _ _; first | (guard_target = WB _ M_is_at_most _ (.Name "one" _) _ _; first | refine wb_mu 0 r_is_at_most_one rfl ?_ | refine wb_of ?_) | (guard_target = WB _ M_is_at_most _ (.Name "other" _) _ _; first | refine wb_mu 1 r_is_at_most_other rfl ?_ | refine wb_of ?_) | refine wb_of ?_) | refine wb_of ?_)
  | (guard_target = WE _ _ _ _ _ _; first
     | (guard_target = WE _ _ _ (.Name _ _) _ _; first | (guard_target = WE _ M_is_at_most _ (.Name "one" _) _ _; refine we_var 0 r_is_at_most_one rfl ?_) | (guard_target = WE _ M_is_at_most _ (.Name "other" _) _ _; refine we_var 1 r_is_at_most_other rfl ?_))
     | (guard_target = WE _ _ _ (.Constant _ _ _) _ _; first | refine we_int ?_ | refine we_str ?_ | refine we_bool ?_ | refine we_none ?_)
     | (guard_target = WE _ _ _ (.Subscript _ _ _) _ _; first | refine we_ix ?_ | refine we_slice ?_)
     | (guard_target = WE _ _ _ (.Call (.Name _ _) _ _ _) _ _; fail)
     | (guard_target = WE _ _ _ (.BinOp _ _ _ _) _ _; first | refine we_add ?_ | refine we_sub ?_ | refine we_mul ?_ | refine we_mod ?_ | refine we_fdiv ?_ | refine we_pow ?_)
     | (guard_target = WE _ _ _ (.Compare _ _ _ _) _ _; first | refine we_eq ?_ | refine we_ne ?_ | refine we_lt ?_ | refine we_le ?_ | refine we_gt ?_ | refine we_ge ?_ | refine we_in ?_ | refine we_notin ?_)
     | walk_at "dw_we")
  | (guard_target = WT _ _ _ _ _ _; walk_at "dw_wt")
  | (guard_target = WL _ _ _ _ _ _; first | refine wl_cons ?_ | refine wl_nil ?_)
  | (guard_target = WW _ _ _ _ _ _; first | refine ww_and ?_ | refine ww_or ?_ | refine ww_and1 ?_ | refine ww_or1 ?_)
  | (guard_target = WO _ _ _ _ _ _; first | refine wo_none ?_ | refine wo_some ?_)
  | (guard_target = WF _ _ _ _ _ _; first | refine wf_list ?_ | refine wf_lc ?_)
  | (guard_target = WS _ _ _ _ _ _; first | refine ws_cons ?_ | refine ws_nil ?_)
  | (guard_target = W1 _ _ _ _ _ _; first | walk_at "dw_1" | (guard_target = W1 _ M_is_at_most _ (.Assign [(.Name "one" _)] (.List _ _) _) _ _; refine w1_set 0 t_is_at_most_one ?_) | (guard_target = W1 _ M_is_at_most _ (.Assign [(.Name "one" _)] (.ListComp _ _ _ _) _) _ _; refine w1_lc 0 l_is_at_most_one ?_) | (guard_target = W1 _ M_is_at_most _ (.Assign [(.Name "other" _)] (.List _ _) _) _ _; refine w1_set 1 t_is_at_most_other ?_) | (guard_target = W1 _ M_is_at_most _ (.Assign [(.Name "other" _)] (.ListComp _ _ _ _) _) _ _; refine w1_lc 1 l_is_at_most_other ?_) | ((first | (guard_target = W1 _ _ _ (.Assign [.Name _ _] (.Call _ _ _ _) _) _ _) | (guard_target = W1 _ _ _ (.Assign [.Name _ _] (.BinOp _ _ _ _) _) _ _) | (guard_target = W1 _ _ _ (.Assign [.Name _ _] (.Name _ _) _) _ _) | (guard_target = W1 _ _ _ (.Assign [.Name _ _] (.Subscript _ _ _) _) _ _) | (guard_target = W1 _ _ _ (.Assign [.Name _ _] (.Constant _ _ _) _) _ _) | (guard_target = W1 _ _ _ (.Assign [.Name _ _] (.Compare _ _ _ _) _) _ _) | (guard_target = W1 _ _ _ (.Assign [.Name _ _] (.BoolOp _ _ _) _) _ _) | (guard_target = W1 _ _ _ (.Assign [.Name _ _] (.IfExp _ _ _ _) _) _ _) | (guard_target = W1 _ _ _ (.Assign [.Name _ _] (.Tuple _ _ _) _) _ _) | (guard_target = W1 _ _ _ (.Assign [.Name _ _] (.UnaryOp _ _ _) _) _ _)); first | (guard_target = W1 _ M_is_at_most _ (.Assign [(.Name "one" _)] _ _) _ _; refine w1_set 0 t_is_at_most_one ?_) | (guard_target = W1 _ M_is_at_most _ (.Assign [(.Name "other" _)] _ _) _ _; refine w1_set 1 t_is_at_most_other ?_)) | (guard_target = W1 _ _ _ (.AugAssign _ _ _ _) _ _; first | (guard_target = W1 _ M_is_at_most _ (.AugAssign (.Name "one" _) _ _ _) _ _; first | refine w1_addI 0 t_is_at_most_one rfl ?_ | refine w1_subI 0 t_is_at_most_one rfl ?_) | (guard_target = W1 _ M_is_at_most _ (.AugAssign (.Name "other" _) _ _ _) _ _; first | refine w1_addI 1 t_is_at_most_other rfl ?_ | refine w1_subI 1 t_is_at_most_other rfl ?_)) | (guard_target = W1 _ _ _ (.Assign [.Tuple _ _ _] _ _) _ _; refine w1_asg ?_))
  | (guard_target = WI _ _ _ _ _ _ _; first | refine wi_seq ?_)
  | (guard_target = WG _ _ _ _ _ _ _; first | (guard_target = WG _ M_is_at_most _ (.Name "one" _) _ _ _; refine wg_name 0 t_is_at_most_one ?_) | (guard_target = WG _ M_is_at_most _ (.Name "other" _) _ _ _; refine wg_name 1 t_is_at_most_other ?_) | refine wg_tup rfl ?_)
  | (guard_target = WH _ _ _ _ _ _ _; first | refine wh_cons ?_ | refine wh_nil ?_)
  | (guard_target = WV _ _ _ _ _ _ _ _; first | refine wv_tup rfl ?_)
  | (guard_target = WVs _ _ _ _ _ _ _ _; first | refine wvs_cons ?_ | refine wvs_nil ?_)
  | walk_at "dw_d"
  | fail)
set_option hygiene false in
local macro_rules | `(tactic| walk_at "st_sign_of") => `(tactic| first
  | (guard_target = WB _ _ _ _ _ _; first | (guard_target = WB _ _ _ (.Name _ _) _ _; first | (guard_target = WB _ M_sign_of _ (.Name "one" _) _ _; first | refine wb_mu 0 r_sign_of_one rfl ?_ | refine wb_of ?_) | refine wb_of ?_) | refine wb_of ?_)
  | (guard_target = WE _ _ _ _ _ _; first
     | (guard_target = WE _ _ _ (.Name _ _) _ _; first | (guard_target = WE _ M_sign_of _ (.Name "one" _) _ _; refine we_var 0 r_sign_of_one rfl ?_))
     | (guard_target = WE _ _ _ (.Constant _ _ _) _ _; first | refine we_int ?_ | refine we_str ?_ | refine we_bool ?_ | refine we_none ?_)
     | (guard_target = WE _ _ _ (.Subscript _ _ _) _ _; first | refine we_ix ?_ | refine we_slice ?_)
     | (guard_target = WE _ _ _ (.Call (.Name _ _) _ _ _) _ _; first | (guard_target = WE _ M_sign_of _ (.Call (.Name "int" _) _ _ _) _ _; refine we_toint B.int g_sign_of_int ?_))
     | (guard_target = WE _ _ _ (.BinOp _ _ _ _) _ _; first | refine we_add ?_ | refine we_sub ?_ | refine we_mul ?_ | refine we_mod ?_ | refine we_fdiv ?_ | refine we_pow ?_)
     | (guard_target = WE _ _ _ (.Compare _ _ _ _) _ _; first | refine we_eq ?_ | refine we_ne ?_ | refine we_lt ?_ | refine we_le ?_ | refine we_gt ?_ | refine we_ge ?_ | refine we_in ?_ | refine we_notin ?_)
     | walk_at "dw_we")
  | (guard_target = WT _ _ _ _ _ _; walk_at "dw_wt")
  | (guard_target = WL _ _ _ _ _ _; first | refine wl_cons ?_ | refine wl_nil ?_)
  | (guard_target = WW _ _ _ _ _ _; first | refine ww_and ?_ | refine ww_or ?_ | refine ww_and1 ?_ | refine ww_or1 ?_)
  | (guard_target = WO _ _ _ _ _ _; first | refine wo_none ?_ | refine wo_some ?_)
  | (guard_target = WF _ _ _ _ _ _; first | refine wf_list ?_ | refine wf_lc ?_)
  | (guard_target = WS _ _ _ _ _ _; first | refine ws_cons ?_ | refine ws_nil ?_)
  | (guard_target = W1 _ _ _ _ _ _; first | walk_at "dw_1" | (guard_target = W1 _ M_sign_of _ (.Assign [(.Name "one" _)] (.List _ _) _) _ _; refine w1_set 0 t_sign_of_one ?_) | (guard_target = W1 _ M_sign_of _ (.Assign [(.Name "one" _)] (.ListComp _ _ _ _) _) _ _; refine w1_lc 0 l_sign_of_one ?_) | ((first | (guard_target = W1 _ _ _ (.Assign [.Name _ _] (.Call _ _ _ _) _) _ _) | (guard_target = W1 _ _ _ (.Assign [.Name _ _] (.BinOp _ _ _ _) _) _ _) | (guard_target = W1 _ _ _ (.Assign [.Name _ _] (.Name _ _) _) _ _) | (guard_target = W1 _ _ _ (.Assign [.Name _ _] (.Subscript _ _ _) _) _ _) | (guard_target = W1 _ _ _ (.Assign [.Name _ _] (.Constant _ _ _) _) _ _) | (guard_target = W1 _ _ _ (.Assign [.Name _ _] (.Compare _ _ _ _) _) _ _) | (guard_target = W1 _ _ _ (.Assign [.Name _ _] (.BoolOp _ _ _) _) _ _) | (guard_target = W1 _ _ _ (.Assign [.Name _ _] (.IfExp _ _ _ _) _) _ _) | (guard_target = W1 _ _ _ (.Assign [.Name _ _] (.Tuple _ _ _) _) _ _) | (guard_target = W1 _ _ _ (.Assign [.Name _ _] (.UnaryOp _ _ _) _) _ _)); first | (guard_target = W1 _ M_sign_of _ (.Assign [(.Name "one" _)] _ _) _ _; refine w1_set 0 t_sign_of_one ?_)) | (guard_target = W1 _ _ _ (.AugAssign _ _ _ _) _ _; first | (guard_target = W1 _ M_sign_of _ (.AugAssign (.Name "one" _) _ _ _) _ _; first | refine w1_addI 0 t_sign_of_one rfl ?_ | refine w1_subI 0 t_sign_of_one rfl ?_)) | (guard_target = W1 _ _ _ (.Assign [.Tuple _ _ _] _ _) _ _; refine w1_asg ?_))
  | (guard_target = WI _ _ _ _ _ _ _; first | refine wi_seq ?_)
  | (guard_target = WG _ _ _ _ _ _ _; first | (guard_target = WG _ M_sign_of _ (.Name "one" _) _ _ _; refine wg_name 0 t_sign_of_one ?_) | refine wg_tup rfl ?_)
  | (guard_target = WH _ _ _ _ _ _ _; first | refine wh_cons ?_ | refine wh_nil ?_)
  | (guard_target = WV _ _ _ _ _ _ _ _; first | refine wv_tup rfl ?_)
  | (guard_target = WVs _ _ _ _ _ _ _ _; first | refine wvs_cons ?_ | refine wvs_nil ?_)
  | walk_at "dw_d"
  | fail)
set_option hygiene false in
local macro_rules | `(tactic| walk_at "st_floor_of") => `(tactic| first
  | (guard_target = WB _ _ _ _ _ _; first | (guard_target = WB _ _ _ (.Name _ _) _ _; first | (guard_target = WB _ M_floor_of _ (.Name "one" _) _ _; first | refine wb_mu 0 r_floor_of_one rfl ?_ | refine wb_of ?_) | refine wb_of ?_) | refine wb_of ?_)
  | (guard_target = WE _ _ _ _ _ _; first
     | (guard_target = WE _ _ _ (.Name _ _) _ _; first | (guard_target = WE _ M_floor_of _ (.Name "one" _) _ _; refine we_var 0 r_floor_of_one rfl ?_))
     | (guard_target = WE _ _ _ (.Constant _ _ _) _ _; first | refine we_int ?_ | refine we_str ?_ | refine we_bool ?_ | refine we_none ?_)
     | (guard_target = WE _ _ _ (.Subscript _ _ _) _ _; first | refine we_ix ?_ | refine we_slice ?_)
     | (guard_target = WE _ _ _ (.Call (.Name _ _) _ _ _) _ _; fail)
     | (guard_target = WE _ _ _ (.BinOp _ _ _ _) _ _; first | refine we_add ?_ | refine we_sub ?_ | refine we_mul ?_ | refine we_mod ?_ | refine we_fdiv ?_ | refine we_pow ?_)
     | (guard_target = WE _ _ _ (.Compare _ _ _ _) _ _; first | refine we_eq ?_ | refine we_ne ?_ | refine we_lt ?_ | refine we_le ?_ | refine we_gt ?_ | refine we_ge ?_ | refine we_in ?_ | refine we_notin ?_)
     | walk_at "dw_we")
  | (guard_target = WT _ _ _ _ _ _; walk_at "dw_wt")
  | (guard_target = WL _ _ _ _ _ _; first | refine wl_cons ?_ | refine wl_nil ?_)
  | (guard_target = WW _ _ _ _ _ _; first | refine ww_and ?_ | refine ww_or ?_ | refine ww_and1 ?_ | refine ww_or1 ?_)
  | (guard_target = WO _ _ _ _ _ _; first | refine wo_none ?_ | refine wo_some ?_)
  | (guard_target = WF _ _ _ _ _ _; first | refine wf_list ?_ | refine wf_lc ?_)
  | (guard_target = WS _ _ _ _ _ _; first | refine ws_cons ?_ | refine ws_nil ?_)
  | (guard_target = W1 _ _ _ _ _ _; first | walk_at "dw_1" | (guard_target = W1 _ M_floor_of _ (.Assign [(.Name "one" _)] (.List _ _) _) _ _; refine w1_set 0 t_floor_of_one ?_) | (guard_target = W1 _ M_floor_of _ (.Assign [(.Name "one" _)] (.ListComp _ _ _ _) _) _ _; refine w1_lc 0 l_floor_of_one ?_) | ((first | (guard_target = W1 _ _ _ (.Assign [.Name _ _] (.Call _ _ _ _) _) _ _) | (guard_target = W1 _ _ _ (.Assign [.Name _ _] (.BinOp _ _ _ _) _) _ _) | (guard_target = W1 _ _ _ (.Assign [.Name _ _] (.Name _ _) _) _ _) | (guard_target = W1 _ _ _ (.Assign [.Name _ _] (.Subscript _ _ _) _) _ _) | (guard_target = W1 _ _ _ (.Assign [.Name _ _] (.Constant _ _ _) _) _ _) | (guard_target = W1 _ _ _ (.Assign [.Name _ _] (.Compare _ _ _ _) _) _ _) | (guard_target = W1 _ _ _ (.Assign [.Name _ _] (.BoolOp _ _ _) _) _ _) | (guard_target = W1 _ _ _ (.Assign [.Name _ _] (.IfExp _ _ _ _) _) _ _) | (guard_target = W1 _ _ _ (.Assign [.Name _ _] (.Tuple _ _ _) _) _ _) | (guard_target = W1 _ _ _ (.Assign [.Name _ _] (.UnaryOp _ _ _) _) _ _)); first | (guard_target = W1 _ M_floor_of _ (.Assign [(.Name "one" _)] _ _) _ _; refine w1_set 0 t_floor_of_one ?_)) | (guard_target = W1 _ _ _ (.AugAssign _ _ _ _) _ _; first | (guard_target = W1 _ M_floor_of _ (.AugAssign (.Name "one" _) _ _ _) _ _; first | refine w1_addI 0 t_floor_of_one rfl ?_ | refine w1_subI 0 t_floor_of_one rfl ?_)) | (guard_target = W1 _ _ _ (.Assign [.Tuple _ _ _] _ _) _ _; refine w1_asg ?_))
  | (guard_target = WI _ _ _ _ _ _ _; first | refine wi_seq ?_)
  | (guard_target = WG _ _ _ _ _ _ _; first | (guard_target = WG _ M_floor_of _ (.Name "one" _) _ _ _; refine wg_name 0 t_floor_of_one ?_) | refine wg_tup rfl ?_)
  | (guard_target = WH _ _ _ _ _ _ _; first | refine wh_cons ?_ | refine wh_nil ?_)
  | (guard_target = WV _ _ _ _ _ _ _ _; first | refine wv_tup rfl ?_)
  | (guard_target = WVs _ _ _ _ _ _ _ _; first | refine wvs_cons ?_ | refine wvs_nil ?_)
  | walk_at "dw_d"
  | fail)
set_option hygiene false in
local macro_rules | `(tactic| walk_at "st_nought") => `(tactic| first
  | (guard_target = WB _ _ _ _ _ _; first | (guard_target = WB _ _ _ (.Name _ _) _ _; first | (guard_target = WB _ M_nought _ (.Name "frame" _) _ _; first | refine wb_mu 0 r_nought_frame rfl ?_ | refine wb_of ?_) | refine wb_of ?_) | refine wb_of ?_)
  | (guard_target = WE _ _ _ _ _ _; first
     | (guard_target = WE _ _ _ (.Name _ _) _ _; first | (guard_target = WE _ M_nought _ (.Name "frame" _) _ _; refine we_var 0 r_nought_frame rfl ?_))
     | (guard_target = WE _ _ _ (.Constant _ _ _) _ _; first | refine we_int ?_ | refine we_str ?_ | refine we_bool ?_ | refine we_none ?_)
     | (guard_target = WE _ _ _ (.Subscript _ _ _) _ _; first | refine we_ix ?_ | refine we_slice ?_)
     | (guard_target = WE _ _ _ (.Call (.Name _ _) _ _ _) _ _; first | (guard_target = WE _ M_nought _ (.Call (.Name "len" _) _ _ _) _ _; refine we_len B.len g_nought_len ?_))
     | (guard_target = WE _ _ _ (.BinOp _ _ _ _) _ _; first | refine we_add ?_ | refine we_sub ?_ | refine we_mul ?_ | refine we_mod ?_ | refine we_fdiv ?_ | refine we_pow ?_)
     | (guard_target = WE _ _ _ (.Compare _ _ _ _) _ _; first | refine we_eq ?_ | refine we_ne ?_ | refine we_lt ?_ | refine we_le ?_ | refine we_gt ?_ | refine we_ge ?_ | refine we_in ?_ | refine we_notin ?_)
     | walk_at "dw_we")
  | (guard_target = WT _ _ _ _ _ _; walk_at "dw_wt")
  | (guard_target = WL _ _ _ _ _ _; first | refine wl_cons ?_ | refine wl_nil ?_)
  | (guard_target = WW _ _ _ _ _ _; first | refine ww_and ?_ | refine ww_or ?_ | refine ww_and1 ?_ | refine ww_or1 ?_)
  | (guard_target = WO _ _ _ _ _ _; first | refine wo_none ?_ | refine wo_some ?_)
  | (guard_target = WF _ _ _ _ _ _; first | refine wf_list ?_ | refine wf_lc ?_)
  | (guard_target = WS _ _ _ _ _ _; first | refine ws_cons ?_ | refine ws_nil ?_)
  | (guard_target = W1 _ _ _ _ _ _; first | walk_at "dw_1" | (guard_target = W1 _ M_nought _ (.Assign [(.Name "frame" _)] (.List _ _) _) _ _; refine w1_set 0 t_nought_frame ?_) | (guard_target = W1 _ M_nought _ (.Assign [(.Name "frame" _)] (.ListComp _ _ _ _) _) _ _; refine w1_lc 0 l_nought_frame ?_) | ((first | (guard_target = W1 _ _ _ (.Assign [.Name _ _] (.Call _ _ _ _) _) _ _) | (guard_target = W1 _ _ _ (.Assign [.Name _ _] (.BinOp _ _ _ _) _) _ _) | (guard_target = W1 _ _ _ (.Assign [.Name _ _] (.Name _ _) _) _ _) | (guard_target = W1 _ _ _ (.Assign [.Name _ _] (.Subscript _ _ _) _) _ _) | (guard_target = W1 _ _ _ (.Assign [.Name _ _] (.Constant _ _ _) _) _ _) | (guard_target = W1 _ _ _ (.Assign [.Name _ _] (.Compare _ _ _ _) _) _ _) | (guard_target = W1 _ _ _ (.Assign [.Name _ _] (.BoolOp _ _ _) _) _ _) | (guard_target = W1 _ _ _ (.Assign [.Name _ _] (.IfExp _ _ _ _) _) _ _) | (guard_target = W1 _ _ _ (.Assign [.Name _ _] (.Tuple _ _ _) _) _ _) | (guard_target = W1 _ _ _ (.Assign [.Name _ _] (.UnaryOp _ _ _) _) _ _)); first | (guard_target = W1 _ M_nought _ (.Assign [(.Name "frame" _)] _ _) _ _; refine w1_set 0 t_nought_frame ?_)) | (guard_target = W1 _ _ _ (.AugAssign _ _ _ _) _ _; first | (guard_target = W1 _ M_nought _ (.AugAssign (.Name "frame" _) _ _ _) _ _; first | refine w1_addI 0 t_nought_frame rfl ?_ | refine w1_subI 0 t_nought_frame rfl ?_)) | (guard_target = W1 _ _ _ (.Assign [.Tuple _ _ _] _ _) _ _; refine w1_asg ?_))
  | (guard_target = WI _ _ _ _ _ _ _; first | refine wi_seq ?_)
  | (guard_target = WG _ _ _ _ _ _ _; first | (guard_target = WG _ M_nought _ (.Name "frame" _) _ _ _; refine wg_name 0 t_nought_frame ?_) | refine wg_tup rfl ?_)
  | (guard_target = WH _ _ _ _ _ _ _; first | refine wh_cons ?_ | refine wh_nil ?_)
  | (guard_target = WV _ _ _ _ _ _ _ _; first | refine wv_tup rfl ?_)
  | (guard_target = WVs _ _ _ _ _ _ _ _; first | refine wvs_cons ?_ | refine wvs_nil ?_)
  | walk_at "dw_d"
  | fail)
set_option hygiene false in
local macro_rules | `(tactic| walk_at "st_added") => `(tactic| first
  | (guard_target = WB _ _ _ _ _ _; first | (guard_target = WB _ _ _ (.Name _ _) _ _; first | (guard_target = WB _ M_added _ (.Name "one" _) _ _; first | refine wb_mu 0 r_added_one rfl ?_ | refine wb_of ?_) | (guard_target = WB _ M_added _ (.Name "other" _) _ _; first | refine wb_mu 1 r_added_other rfl ?_ | refine wb_of ?_) | (guard_target = WB _ (blkNm M_added _ kd_added_0 gl_added_0) _ (.Name "mine" _) _ _; first | refine wb_mu 2 (r_added_0_mine _) rfl ?_ | refine wb_of ?_) | (guard_target = WB _ (blkNm M_added _ kd_added_0 gl_added_0) _ (.Name "its" _) _ _; first | refine wb_mu 3 (r_added_0_its _) rfl ?_ | refine wb_of ?_) | refine wb_of ?_) | refine wb_of ?_)
  | (guard_target = WE _ _ _ _ _ _; first
     | (guard_target = WE _ _ _ (.Name _ _) _ _; first | (guard_target = WE _ M_added _ (.Name "one" _) _ _; refine we_var 0 r_added_one rfl ?_) | (guard_target = WE _ M_added _ (.Name "other" _) _ _; refine we_var 1 r_added_other rfl ?_) | (guard_target = WE _ (blkNm M_added _ kd_added_0 gl_added_0) _ (.Name "mine" _) _ _; refine we_var 2 (r_added_0_mine _) rfl ?_) | (guard_target = WE _ (blkNm M_added _ kd_added_0 gl_added_0) _ (.Name "its" _) _ _; refine we_var 3 (r_added_0_its _) rfl ?_))
     | (guard_target = WE _ _ _ (.Constant _ _ _) _ _; first | refine we_int ?_ | refine we_str ?_ | refine we_bool ?_ | refine we_none ?_)
     | (guard_target = WE _ _ _ (.Subscript _ _ _) _ _; first | refine we_ix ?_ | refine we_slice ?_)
     | (guard_target = WE _ _ _ (.Call (.Name _ _) _ _ _) _ _; first | (guard_target = WE _ M_added _ (.Call (.Name "tuple" _) _ _ _) _ _; refine we_tup B.tuple g_added_tuple ?_) | (guard_target = WE _ (blkNm M_added _ kd_added_0 gl_added_0) _ (.Call (.Name "plus" _) _ _ _) _ _; first | refine we_call f_plus (g_added_0_plus _) (by omega) ?_ | refine we_call0 f_plus (g_added_0_plus _) (by omega) ?_))
     | (guard_target = WE _ _ _ (.BinOp _ _ _ _) _ _; first | refine we_add ?_ | refine we_sub ?_ | refine we_mul ?_ | refine we_mod ?_ | refine we_fdiv ?_ | refine we_pow ?_)
     | (guard_target = WE _ _ _ (.Compare _ _ _ _) _ _; first | refine we_eq ?_ | refine we_ne ?_ | refine we_lt ?_ | refine we_le ?_ | refine we_gt ?_ | refine we_ge ?_ | refine we_in ?_ | refine we_notin ?_)
     | walk_at "dw_we")
  | (guard_target = WT _ _ _ _ _ _; walk_at "dw_wt")
  | (guard_target = WL _ _ _ _ _ _; first | refine wl_cons ?_ | refine wl_nil ?_)
  | (guard_target = WW _ _ _ _ _ _; first | refine ww_and ?_ | refine ww_or ?_ | refine ww_and1 ?_ | refine ww_or1 ?_)
  | (guard_target = WO _ _ _ _ _ _; first | refine wo_none ?_ | refine wo_some ?_)
  | (guard_target = WF _ _ _ _ _ _; first | refine wf_list ?_ | refine wf_lc ?_)
  | (guard_target = WS _ _ _ _ _ _; first | refine ws_cons ?_ | refine ws_nil ?_)
  | (guard_target = W1 _ _ _ _ _ _; first | walk_at "dw_1" | (guard_target = W1 _ M_added _ (.Assign [(.Name "one" _)] (.List _ _) _) _ _; refine w1_set 0 t_added_one ?_) | (guard_target = W1 _ M_added _ (.Assign [(.Name "one" _)] (.ListComp _ _ _ _) _) _ _; refine w1_lc 0 l_added_one ?_) | (guard_target = W1 _ M_added _ (.Assign [(.Name "other" _)] (.List _ _) _) _ _; refine w1_set 1 t_added_other ?_) | (guard_target = W1 _ M_added _ (.Assign [(.Name "other" _)] (.ListComp _ _ _ _) _) _ _; refine w1_lc 1 l_added_other ?_) | ((first | (guard_target = W1 _ _ _ (.Assign [.Name _ _] (.Call _ _ _ _) _) _ _) | (guard_target = W1 _ _ _ (.Assign [.Name _ _] (.BinOp _ _ _ _) _) _ _) | (guard_target = W1 _ _ _ (.Assign [.Name _ _] (.Name _ _) _) _ _) | (guard_target = W1 _ _ _ (.Assign [.Name _ _] (.Subscript _ _ _) _) _ _) | (guard_target = W1 _ _ _ (.Assign [.Name _ _] (.Constant _ _ _) _) _ _) | (guard_target = W1 _ _ _ (.Assign [.Name _ _] (.Compare _ _ _ _) _) _ _) | (guard_target = W1 _ _ _ (.Assign [.Name _ _] (.BoolOp _ _ _) _) _ _) | (guard_target = W1 _ _ _ (.Assign [.Name _ _] (.IfExp _ _ _ _) _) _ _) | (guard_target = W1 _ _ _ (.Assign [.Name _ _] (.Tuple _ _ _) _) _ _) | (guard_target = W1 _ _ _ (.Assign [.Name _ _] (.UnaryOp _ _ _) _) _ _)); first | (guard_target = W1 _ M_added _ (.Assign [(.Name "one" _)] _ _) _ _; refine w1_set 0 t_added_one ?_) | (guard_target = W1 _ M_added _ (.Assign [(.Name "other" _)] _ _) _ _; refine w1_set 1 t_added_other ?_)) | (guard_target = W1 _ _ _ (.AugAssign _ _ _ _) _ _; first | (guard_target = W1 _ M_added _ (.AugAssign (.Name "one" _) _ _ _) _ _; first | refine w1_addI 0 t_added_one rfl ?_ | refine w1_subI 0 t_added_one rfl ?_) | (guard_target = W1 _ M_added _ (.AugAssign (.Name "other" _) _ _ _) _ _; first | refine w1_addI 1 t_added_other rfl ?_ | refine w1_subI 1 t_added_other rfl ?_)) | (guard_target = W1 _ _ _ (.Assign [.Tuple _ _ _] _ _) _ _; refine w1_asg ?_))
  | (guard_target = WI _ _ _ _ _ _ _; first | refine wi_zip B.zip g_added_zip ?_ | refine wi_seq ?_)
  | (guard_target = WG _ _ _ _ _ _ _; first | (guard_target = WG _ M_added _ (.Name "one" _) _ _ _; refine wg_name 0 t_added_one ?_) | (guard_target = WG _ M_added _ (.Name "other" _) _ _ _; refine wg_name 1 t_added_other ?_) | refine wg_tup rfl ?_)
  | (guard_target = WH _ _ _ _ _ _ _; first | refine wh_cons ?_ | refine wh_nil ?_)
  | (guard_target = WV _ _ _ _ _ _ _ _; first | (guard_target = WV _ (blkNm M_added _ kd_added_0 gl_added_0) _ _ (.Name "mine" _) _ _ _; refine wv_name 2 (t_added_0_mine _) (by decide) ?_) | (guard_target = WV _ (blkNm M_added _ kd_added_0 gl_added_0) _ _ (.Name "its" _) _ _ _; refine wv_name 3 (t_added_0_its _) (by decide) ?_) | refine wv_tup rfl ?_)
  | (guard_target = WVs _ _ _ _ _ _ _ _; first | refine wvs_cons ?_ | refine wvs_nil ?_)
  | walk_at "dw_d"
  | fail)
set_option hygiene false in
local macro_rules | `(tactic| walk_at "st_less") => `(tactic| first
  | (guard_target = WB _ _ _ _ _ _; first | (guard_target = WB _ _ _ (.Name _ _) _ _; first | (guard_target = WB _ M_less _ (.Name "one" _) _ _; first | refine wb_mu 0 r_less_one rfl ?_ | refine wb_of ?_) | (guard_target = WB _ M_less _ (.Name "other" _) _ _; first | refine wb_mu 1 r_less_other rfl ?_ | refine wb_of ?_) | (guard_target = WB _ (blkNm M_less _ kd_less_0 gl_less_0) _ (.Name "mine" _) _ _; first | refine wb_mu 2 (r_less_0_mine _) rfl ?_ | refine wb_of ?_) | (guard_target = WB _ (blkNm M_less _ kd_less_0 gl_less_0) _ (.Name "its" _) _ _; first | refine wb_mu 3 (r_less_0_its _) rfl ?_ | refine wb_of ?_) | refine wb_of ?_) | refine wb_of ?_)
  | (guard_target = WE _ _ _ _ _ _; first
     | (guard_target = WE _ _ _ (.Name _ _) _ _; first | (guard_target = WE _ M_less _ (.Name "one" _) _ _; refine we_var 0 r_less_one rfl ?_) | (guard_target = WE _ M_less _ (.Name "other" _) _ _; refine we_var 1 r_less_other rfl ?_) | (guard_target = WE _ (blkNm M_less _ kd_less_0 gl_less_0) _ (.Name "mine" _) _ _; refine we_var 2 (r_less_0_mine _) rfl ?_) | (guard_target = WE _ (blkNm M_less _ kd_less_0 gl_less_0) _ (.Name "its" _) _ _; refine we_var 3 (r_less_0_its _) rfl ?_))
     | (guard_target = WE _ _ _ (.Constant _ _ _) _ _; first | refine we_int ?_ | refine we_str ?_ | refine we_bool ?_ | refine we_none ?_)
     | (guard_target = WE _ _ _ (.Subscript _ _ _) _ _; first | refine we_ix ?_ | refine we_slice ?_)
     | (guard_target = WE _ _ _ (.Call (.Name _ _) _ _ _) _ _; first | (guard_target = WE _ M_less _ (.Call (.Name "tuple" _) _ _ _) _ _; refine we_tup B.tuple g_less_tuple ?_) | (guard_target = WE _ (blkNm M_less _ kd_less_0 gl_less_0) _ (.Call (.Name "minus" _) _ _ _) _ _; first | refine we_call f_minus (g_less_0_minus _) (by omega) ?_ | refine we_call0 f_minus (g_less_0_minus _) (by omega) ?_))
     | (guard_target = WE _ _ _ (.BinOp _ _ _ _) _ _; first | refine we_add ?_ | refine we_sub ?_ | refine we_mul ?_ | refine we_mod ?_ | refine we_fdiv ?_ | refine we_pow ?_)
     | (guard_target = WE _ _ _ (.Compare _ _ _ _) _ _; first | refine we_eq ?_ | refine we_ne ?_ | refine we_lt ?_ | refine we_le ?_ | refine we_gt ?_ | refine we_ge ?_ | refine we_in ?_ | refine we_notin ?_)
     | walk_at "dw_we")
  | (guard_target = WT _ _ _ _ _ _; walk_at "dw_wt")
  | (guard_target = WL _ _ _ _ _ _; first | refine wl_cons ?_ | refine wl_nil ?_)
  | (guard_target = WW _ _ _ _ _ _; first | refine ww_and ?_ | refine ww_or ?_ | refine ww_and1 ?_ | refine ww_or1 ?_)
  | (guard_target = WO _ _ _ _ _ _; first | refine wo_none ?_ | refine wo_some ?_)
  | (guard_target = WF _ _ _ _ _ _; first | refine wf_list ?_ | refine wf_lc ?_)
  | (guard_target = WS _ _ _ _ _ _; first | refine ws_cons ?_ | refine ws_nil ?_)
  | (guard_target = W1 _ _ _ _ _ _; first | walk_at "dw_1" | (guard_target = W1 _ M_less _ (.Assign [(.Name "one" _)] (.List _ _) _) _ _; refine w1_set 0 t_less_one ?_) | (guard_target = W1 _ M_less _ (.Assign [(.Name "one" _)] (.ListComp _ _ _ _) _) _ _; refine w1_lc 0 l_less_one ?_) | (guard_target = W1 _ M_less _ (.Assign [(.Name "other" _)] (.List _ _) _) _ _; refine w1_set 1 t_less_other ?_) | (guard_target = W1 _ M_less _ (.Assign [(.Name "other" _)] (.ListComp _ _ _ _) _) _ _; refine w1_lc 1 l_less_other ?_) | ((first | (guard_target = W1 _ _ _ (.Assign [.Name _ _] (.Call _ _ _ _) _) _ _) | (guard_target = W1 _ _ _ (.Assign [.Name _ _] (.BinOp _ _ _ _) _) _ _) | (guard_target = W1 _ _ _ (.Assign [.Name _ _] (.Name _ _) _) _ _) | (guard_target = W1 _ _ _ (.Assign [.Name _ _] (.Subscript _ _ _) _) _ _) | (guard_target = W1 _ _ _ (.Assign [.Name _ _] (.Constant _ _ _) _) _ _) | (guard_target = W1 _ _ _ (.Assign [.Name _ _] (.Compare _ _ _ _) _) _ _) | (guard_target = W1 _ _ _ (.Assign [.Name _ _] (.BoolOp _ _ _) _) _ _) | (guard_target = W1 _ _ _ (.Assign [.Name _ _] (.IfExp _ _ _ _) _) _ _) | (guard_target = W1 _ _ _ (.Assign [.Name _ _] (.Tuple _ _ _) _) _ _) | (guard_target = W1 _ _ _ (.Assign [.Name _ _] (.UnaryOp _ _ _) _) _ _)); first | (guard_target = W1 _ M_less _ (.Assign [(.Name "one" _)] _ _) _ _; refine w1_set 0 t_less_one ?_) | (guard_target = W1 _ M_less _ (.Assign [(.Name "other" _)] _ _) _ _; refine w1_set 1 t_less_other ?_)) | (guard_target = W1 _ _ _ (.AugAssign _ _ _ _) _ _; first | (guard_target = W1 _ M_less _ (.AugAssign (.Name "one" _) _ _ _) _ _; first | refine w1_addI 0 t_less_one rfl ?_ | refine w1_subI 0 t_less_one rfl ?_) | (guard_target = W1 _ M_less _ (.AugAssign (.Name "other" _) _ _ _) _ _; first | refine w1_addI 1 t_less_other rfl ?_ | refine w1_subI 1 t_less_other rfl ?_)) | (guard_target = W1 _ _ _ (.Assign [.Tuple _ _ _] _ _) _ _; refine w1_asg ?_))
  | (guard_target = WI _ _ _ _ _ _ _; first | refine wi_zip B.zip g_less_zip ?_ | refine wi_seq ?_)
  | (guard_target = WG _ _ _ _ _ _ _; first | (guard_target = WG _ M_less _ (.Name "one" _) _ _ _; refine wg_name 0 t_less_one ?_) | (guard_target = WG _ M_less _ (.Name "other" _) _ _ _; refine wg_name 1 t_less_other ?_) | refine wg_tup rfl ?_)
  | (guard_target = WH _ _ _ _ _ _ _; first | refine wh_cons ?_ | refine wh_nil ?_)
  | (guard_target = WV _ _ _ _ _ _ _ _; first | (guard_target = WV _ (blkNm M_less _ kd_less_0 gl_less_0) _ _ (.Name "mine" _) _ _ _; refine wv_name 2 (t_less_0_mine _) (by decide) ?_) | (guard_target = WV _ (blkNm M_less _ kd_less_0 gl_less_0) _ _ (.Name "its" _) _ _ _; refine wv_name 3 (t_less_0_its _) (by decide) ?_) | refine wv_tup rfl ?_)
  | (guard_target = WVs _ _ _ _ _ _ _ _; first | refine wvs_cons ?_ | refine wvs_nil ?_)
  | walk_at "dw_d"
  | fail)
set_option hygiene false in
local macro_rules | `(tactic| walk_at "st_multiple") => `(tactic| first
  | (guard_target = WB _ _ _ _ _ _; first | (guard_target = WB _ _ _ (.Name _ _) _ _; first | (guard_target = WB _ M_multiple _ (.Name "share" _) _ _; first | refine wb_mu 0 r_multiple_share rfl ?_ | refine wb_of ?_) | (guard_target = WB _ M_multiple _ (.Name "vector" _) _ _; first | refine wb_mu 1 r_multiple_vector rfl ?_ | refine wb_of ?_) | (guard_target = WB _ (blkNm M_multiple _ kd_multiple_0 gl_multiple_0) _ (.Name "share" _) _ _; first | refine wb_mu 0 (r_multiple_0_share _) rfl ?_ | refine wb_of ?_) | (guard_target = WB _ (blkNm M_multiple _ kd_multiple_0 gl_multiple_0) _ (.Name "number" _) _ _; first | refine wb_mu 2 (r_multiple_0_number _) rfl ?_ | refine wb_of ?_) | refine wb_of ?_) | refine wb_of ?_)
  | (guard_target = WE _ _ _ _ _ _; first
     | (guard_target = WE _ _ _ (.Name _ _) _ _; first | (guard_target = WE _ M_multiple _ (.Name "share" _) _ _; refine we_var 0 r_multiple_share rfl ?_) | (guard_target = WE _ M_multiple _ (.Name "vector" _) _ _; refine we_var 1 r_multiple_vector rfl ?_) | (guard_target = WE _ (blkNm M_multiple _ kd_multiple_0 gl_multiple_0) _ (.Name "share" _) _ _; refine we_var 0 (r_multiple_0_share _) rfl ?_) | (guard_target = WE _ (blkNm M_multiple _ kd_multiple_0 gl_multiple_0) _ (.Name "number" _) _ _; refine we_var 2 (r_multiple_0_number _) rfl ?_))
     | (guard_target = WE _ _ _ (.Constant _ _ _) _ _; first | refine we_int ?_ | refine we_str ?_ | refine we_bool ?_ | refine we_none ?_)
     | (guard_target = WE _ _ _ (.Subscript _ _ _) _ _; first | refine we_ix ?_ | refine we_slice ?_)
     | (guard_target = WE _ _ _ (.Call (.Name _ _) _ _ _) _ _; first | (guard_target = WE _ M_multiple _ (.Call (.Name "tuple" _) _ _ _) _ _; refine we_tup B.tuple g_multiple_tuple ?_) | (guard_target = WE _ (blkNm M_multiple _ kd_multiple_0 gl_multiple_0) _ (.Call (.Name "times" _) _ _ _) _ _; first | refine we_call f_times (g_multiple_0_times _) (by omega) ?_ | refine we_call0 f_times (g_multiple_0_times _) (by omega) ?_))
     | (guard_target = WE _ _ _ (.BinOp _ _ _ _) _ _; first | refine we_add ?_ | refine we_sub ?_ | refine we_mul ?_ | refine we_mod ?_ | refine we_fdiv ?_ | refine we_pow ?_)
     | (guard_target = WE _ _ _ (.Compare _ _ _ _) _ _; first | refine we_eq ?_ | refine we_ne ?_ | refine we_lt ?_ | refine we_le ?_ | refine we_gt ?_ | refine we_ge ?_ | refine we_in ?_ | refine we_notin ?_)
     | walk_at "dw_we")
  | (guard_target = WT _ _ _ _ _ _; walk_at "dw_wt")
  | (guard_target = WL _ _ _ _ _ _; first | refine wl_cons ?_ | refine wl_nil ?_)
  | (guard_target = WW _ _ _ _ _ _; first | refine ww_and ?_ | refine ww_or ?_ | refine ww_and1 ?_ | refine ww_or1 ?_)
  | (guard_target = WO _ _ _ _ _ _; first | refine wo_none ?_ | refine wo_some ?_)
  | (guard_target = WF _ _ _ _ _ _; first | refine wf_list ?_ | refine wf_lc ?_)
  | (guard_target = WS _ _ _ _ _ _; first | refine ws_cons ?_ | refine ws_nil ?_)
  | (guard_target = W1 _ _ _ _ _ _; first | walk_at "dw_1" | (guard_target = W1 _ M_multiple _ (.Assign [(.Name "share" _)] (.List _ _) _) _ _; refine w1_set 0 t_multiple_share ?_) | (guard_target = W1 _ M_multiple _ (.Assign [(.Name "share" _)] (.ListComp _ _ _ _) _) _ _; refine w1_lcC 0 rfl rfl ?_) | (guard_target = W1 _ M_multiple _ (.Assign [(.Name "vector" _)] (.List _ _) _) _ _; refine w1_set 1 t_multiple_vector ?_) | (guard_target = W1 _ M_multiple _ (.Assign [(.Name "vector" _)] (.ListComp _ _ _ _) _) _ _; refine w1_lc 1 l_multiple_vector ?_) | ((first | (guard_target = W1 _ _ _ (.Assign [.Name _ _] (.Call _ _ _ _) _) _ _) | (guard_target = W1 _ _ _ (.Assign [.Name _ _] (.BinOp _ _ _ _) _) _ _) | (guard_target = W1 _ _ _ (.Assign [.Name _ _] (.Name _ _) _) _ _) | (guard_target = W1 _ _ _ (.Assign [.Name _ _] (.Subscript _ _ _) _) _ _) | (guard_target = W1 _ _ _ (.Assign [.Name _ _] (.Constant _ _ _) _) _ _) | (guard_target = W1 _ _ _ (.Assign [.Name _ _] (.Compare _ _ _ _) _) _ _) | (guard_target = W1 _ _ _ (.Assign [.Name _ _] (.BoolOp _ _ _) _) _ _) | (guard_target = W1 _ _ _ (.Assign [.Name _ _] (.IfExp _ _ _ _) _) _ _) | (guard_target = W1 _ _ _ (.Assign [.Name _ _] (.Tuple _ _ _) _) _ _) | (guard_target = W1 _ _ _ (.Assign [.Name _ _] (.UnaryOp _ _ _) _) _ _)); first | (guard_target = W1 _ M_multiple _ (.Assign [(.Name "share" _)] _ _) _ _; refine w1_set 0 t_multiple_share ?_) | (guard_target = W1 _ M_multiple _ (.Assign [(.Name "vector" _)] _ _) _ _; refine w1_set 1 t_multiple_vector ?_)) | (guard_target = W1 _ _ _ (.AugAssign _ _ _ _) _ _; first | (guard_target = W1 _ M_multiple _ (.AugAssign (.Name "share" _) _ _ _) _ _; first | refine w1_addI 0 t_multiple_share rfl ?_ | refine w1_subI 0 t_multiple_share rfl ?_) | (guard_target = W1 _ M_multiple _ (.AugAssign (.Name "vector" _) _ _ _) _ _; first | refine w1_addI 1 t_multiple_vector rfl ?_ | refine w1_subI 1 t_multiple_vector rfl ?_)) | (guard_target = W1 _ _ _ (.Assign [.Tuple _ _ _] _ _) _ _; refine w1_asg ?_))
  | (guard_target = WI _ _ _ _ _ _ _; first | refine wi_seq ?_)
  | (guard_target = WG _ _ _ _ _ _ _; first | (guard_target = WG _ M_multiple _ (.Name "share" _) _ _ _; refine wg_name 0 t_multiple_share ?_) | (guard_target = WG _ M_multiple _ (.Name "vector" _) _ _ _; refine wg_name 1 t_multiple_vector ?_) | refine wg_tup rfl ?_)
  | (guard_target = WH _ _ _ _ _ _ _; first | refine wh_cons ?_ | refine wh_nil ?_)
  | (guard_target = WV _ _ _ _ _ _ _ _; first | (guard_target = WV _ (blkNm M_multiple _ kd_multiple_0 gl_multiple_0) _ _ (.Name "number" _) _ _ _; refine wv_name 2 (t_multiple_0_number _) (by decide) ?_) | refine wv_tup rfl ?_)
  | (guard_target = WVs _ _ _ _ _ _ _ _; first | refine wvs_cons ?_ | refine wvs_nil ?_)
  | walk_at "dw_d"
  | fail)
set_option hygiene false in
local macro_rules | `(tactic| walk_at "st_vector_of") => `(tactic| first
  | (guard_target = WB _ _ _ _ _ _; first | (guard_target = WB _ _ _ (.Name _ _) _ _; first | (guard_target = WB _ M_vector_of _ (.Name "numbers" _) _ _; first | refine wb_mu 0 r_vector_of_numbers rfl ?_ | refine wb_of ?_) | (guard_target = WB _ (blkNm M_vector_of _ kd_vector_of_0 gl_vector_of_0) _ (.Name "number" _) _ _; first | refine wb_mu 1 (r_vector_of_0_number _) rfl ?_ | refine wb_of ?_) | refine wb_of ?_) | refine wb_of ?_)
  | (guard_target = WE _ _ _ _ _ _; first
     | (guard_target = WE _ _ _ (.Name _ _) _ _; first | (guard_target = WE _ M_vector_of _ (.Name "numbers" _) _ _; refine we_var 0 r_vector_of_numbers rfl ?_) | (guard_target = WE _ (blkNm M_vector_of _ kd_vector_of_0 gl_vector_of_0) _ (.Name "number" _) _ _; refine we_var 1 (r_vector_of_0_number _) rfl ?_))
     | (guard_target = WE _ _ _ (.Constant _ _ _) _ _; first | refine we_int ?_ | refine we_str ?_ | refine we_bool ?_ | refine we_none ?_)
     | (guard_target = WE _ _ _ (.Subscript _ _ _) _ _; first | refine we_ix ?_ | refine we_slice ?_)
     | (guard_target = WE _ _ _ (.Call (.Name _ _) _ _ _) _ _; first | (guard_target = WE _ M_vector_of _ (.Call (.Name "tuple" _) _ _ _) _ _; refine we_tup B.tuple g_vector_of_tuple ?_))
     | (guard_target = WE _ _ _ (.BinOp _ _ _ _) _ _; first | refine we_add ?_ | refine we_sub ?_ | refine we_mul ?_ | refine we_mod ?_ | refine we_fdiv ?_ | refine we_pow ?_)
     | (guard_target = WE _ _ _ (.Compare _ _ _ _) _ _; first | refine we_eq ?_ | refine we_ne ?_ | refine we_lt ?_ | refine we_le ?_ | refine we_gt ?_ | refine we_ge ?_ | refine we_in ?_ | refine we_notin ?_)
     | walk_at "dw_we")
  | (guard_target = WT _ _ _ _ _ _; walk_at "dw_wt")
  | (guard_target = WL _ _ _ _ _ _; first | refine wl_cons ?_ | refine wl_nil ?_)
  | (guard_target = WW _ _ _ _ _ _; first | refine ww_and ?_ | refine ww_or ?_ | refine ww_and1 ?_ | refine ww_or1 ?_)
  | (guard_target = WO _ _ _ _ _ _; first | refine wo_none ?_ | refine wo_some ?_)
  | (guard_target = WF _ _ _ _ _ _; first | refine wf_list ?_ | refine wf_lc ?_)
  | (guard_target = WS _ _ _ _ _ _; first | refine ws_cons ?_ | refine ws_nil ?_)
  | (guard_target = W1 _ _ _ _ _ _; first | walk_at "dw_1" | (guard_target = W1 _ M_vector_of _ (.Assign [(.Name "numbers" _)] (.List _ _) _) _ _; refine w1_set 0 t_vector_of_numbers ?_) | (guard_target = W1 _ M_vector_of _ (.Assign [(.Name "numbers" _)] (.ListComp _ _ _ _) _) _ _; refine w1_lc 0 l_vector_of_numbers ?_) | ((first | (guard_target = W1 _ _ _ (.Assign [.Name _ _] (.Call _ _ _ _) _) _ _) | (guard_target = W1 _ _ _ (.Assign [.Name _ _] (.BinOp _ _ _ _) _) _ _) | (guard_target = W1 _ _ _ (.Assign [.Name _ _] (.Name _ _) _) _ _) | (guard_target = W1 _ _ _ (.Assign [.Name _ _] (.Subscript _ _ _) _) _ _) | (guard_target = W1 _ _ _ (.Assign [.Name _ _] (.Constant _ _ _) _) _ _) | (guard_target = W1 _ _ _ (.Assign [.Name _ _] (.Compare _ _ _ _) _) _ _) | (guard_target = W1 _ _ _ (.Assign [.Name _ _] (.BoolOp _ _ _) _) _ _) | (guard_target = W1 _ _ _ (.Assign [.Name _ _] (.IfExp _ _ _ _) _) _ _) | (guard_target = W1 _ _ _ (.Assign [.Name _ _] (.Tuple _ _ _) _) _ _) | (guard_target = W1 _ _ _ (.Assign [.Name _ _] (.UnaryOp _ _ _) _) _ _)); first | (guard_target = W1 _ M_vector_of _ (.Assign [(.Name "numbers" _)] _ _) _ _; refine w1_set 0 t_vector_of_numbers ?_)) | (guard_target = W1 _ _ _ (.AugAssign _ _ _ _) _ _; first | (guard_target = W1 _ M_vector_of _ (.AugAssign (.Name "numbers" _) _ _ _) _ _; first | refine w1_addI 0 t_vector_of_numbers rfl ?_ | refine w1_subI 0 t_vector_of_numbers rfl ?_)) | (guard_target = W1 _ _ _ (.Assign [.Tuple _ _ _] _ _) _ _; refine w1_asg ?_))
  | (guard_target = WI _ _ _ _ _ _ _; first | refine wi_seq ?_)
  | (guard_target = WG _ _ _ _ _ _ _; first | (guard_target = WG _ M_vector_of _ (.Name "numbers" _) _ _ _; refine wg_name 0 t_vector_of_numbers ?_) | refine wg_tup rfl ?_)
  | (guard_target = WH _ _ _ _ _ _ _; first | refine wh_cons ?_ | refine wh_nil ?_)
  | (guard_target = WV _ _ _ _ _ _ _ _; first | (guard_target = WV _ (blkNm M_vector_of _ kd_vector_of_0 gl_vector_of_0) _ _ (.Name "number" _) _ _ _; refine wv_name 1 (t_vector_of_0_number _) (by decide) ?_) | refine wv_tup rfl ?_)
  | (guard_target = WVs _ _ _ _ _ _ _ _; first | refine wvs_cons ?_ | refine wvs_nil ?_)
  | walk_at "dw_d"
  | fail)
set_option hygiene false in
local macro_rules | `(tactic| walk_at "st_law_bag") => `(tactic| first
  | (guard_target = WB _ _ _ _ _ _; first | (guard_target = WB _ _ _ (.Name _ _) _ _; first | (guard_target = WB _ M_law_bag _ (.Name "script" _) _ _; first | refine wb_mu 0 r_law_bag_script rfl ?_ | refine wb_of ?_) | (guard_target = WB _ (blkNm M_law_bag _ kd_law_bag_0 gl_law_bag_0) _ (.Name "cell" _) _ _; first | refine wb_mu 1 (r_law_bag_0_cell _) rfl ?_ | refine wb_of ?_) | refine wb_of ?_) | refine wb_of ?_)
  | (guard_target = WE _ _ _ _ _ _; first
     | (guard_target = WE _ _ _ (.Name _ _) _ _; first | (guard_target = WE _ M_law_bag _ (.Name "script" _) _ _; refine we_var 0 r_law_bag_script rfl ?_) | (guard_target = WE _ (blkNm M_law_bag _ kd_law_bag_0 gl_law_bag_0) _ (.Name "cell" _) _ _; refine we_var 1 (r_law_bag_0_cell _) rfl ?_))
     | (guard_target = WE _ _ _ (.Constant _ _ _) _ _; first | refine we_int ?_ | refine we_str ?_ | refine we_bool ?_ | refine we_none ?_)
     | (guard_target = WE _ _ _ (.Subscript _ _ _) _ _; first | refine we_ix ?_ | refine we_slice ?_)
     | (guard_target = WE _ _ _ (.Call (.Name _ _) _ _ _) _ _; first | (guard_target = WE _ (blkNm M_law_bag _ kd_law_bag_0 gl_law_bag_0) _ (.Call (.Name "abs" _) _ _ _) _ _; refine we_abs B.abs (g_law_bag_0_abs _) ?_))
     | (guard_target = WE _ _ _ (.BinOp _ _ _ _) _ _; first | refine we_add ?_ | refine we_sub ?_ | refine we_mul ?_ | refine we_mod ?_ | refine we_fdiv ?_ | refine we_pow ?_)
     | (guard_target = WE _ _ _ (.Compare _ _ _ _) _ _; first | refine we_eq ?_ | refine we_ne ?_ | refine we_lt ?_ | refine we_le ?_ | refine we_gt ?_ | refine we_ge ?_ | refine we_in ?_ | refine we_notin ?_)
     | walk_at "dw_we")
  | (guard_target = WT _ _ _ _ _ _; walk_at "dw_wt")
  | (guard_target = WL _ _ _ _ _ _; first | refine wl_cons ?_ | refine wl_nil ?_)
  | (guard_target = WW _ _ _ _ _ _; first | refine ww_and ?_ | refine ww_or ?_ | refine ww_and1 ?_ | refine ww_or1 ?_)
  | (guard_target = WO _ _ _ _ _ _; first | refine wo_none ?_ | refine wo_some ?_)
  | (guard_target = WF _ _ _ _ _ _; first | refine wf_list ?_ | refine wf_lc ?_)
  | (guard_target = WS _ _ _ _ _ _; first | refine ws_cons ?_ | refine ws_nil ?_)
  | (guard_target = W1 _ _ _ _ _ _; first | walk_at "dw_1" | (guard_target = W1 _ M_law_bag _ (.Assign [(.Name "script" _)] (.List _ _) _) _ _; refine w1_set 0 t_law_bag_script ?_) | (guard_target = W1 _ M_law_bag _ (.Assign [(.Name "script" _)] (.ListComp _ _ _ _) _) _ _; refine w1_lc 0 l_law_bag_script ?_) | ((first | (guard_target = W1 _ _ _ (.Assign [.Name _ _] (.Call _ _ _ _) _) _ _) | (guard_target = W1 _ _ _ (.Assign [.Name _ _] (.BinOp _ _ _ _) _) _ _) | (guard_target = W1 _ _ _ (.Assign [.Name _ _] (.Name _ _) _) _ _) | (guard_target = W1 _ _ _ (.Assign [.Name _ _] (.Subscript _ _ _) _) _ _) | (guard_target = W1 _ _ _ (.Assign [.Name _ _] (.Constant _ _ _) _) _ _) | (guard_target = W1 _ _ _ (.Assign [.Name _ _] (.Compare _ _ _ _) _) _ _) | (guard_target = W1 _ _ _ (.Assign [.Name _ _] (.BoolOp _ _ _) _) _ _) | (guard_target = W1 _ _ _ (.Assign [.Name _ _] (.IfExp _ _ _ _) _) _ _) | (guard_target = W1 _ _ _ (.Assign [.Name _ _] (.Tuple _ _ _) _) _ _) | (guard_target = W1 _ _ _ (.Assign [.Name _ _] (.UnaryOp _ _ _) _) _ _)); first | (guard_target = W1 _ M_law_bag _ (.Assign [(.Name "script" _)] _ _) _ _; refine w1_set 0 t_law_bag_script ?_)) | (guard_target = W1 _ _ _ (.AugAssign _ _ _ _) _ _; first | (guard_target = W1 _ M_law_bag _ (.AugAssign (.Name "script" _) _ _ _) _ _; first | refine w1_addI 0 t_law_bag_script rfl ?_ | refine w1_subI 0 t_law_bag_script rfl ?_)) | (guard_target = W1 _ _ _ (.Assign [.Tuple _ _ _] _ _) _ _; refine w1_asg ?_))
  | (guard_target = WI _ _ _ _ _ _ _; first | refine wi_seq ?_)
  | (guard_target = WG _ _ _ _ _ _ _; first | (guard_target = WG _ M_law_bag _ (.Name "script" _) _ _ _; refine wg_name 0 t_law_bag_script ?_) | refine wg_tup rfl ?_)
  | (guard_target = WH _ _ _ _ _ _ _; first | refine wh_cons ?_ | refine wh_nil ?_)
  | (guard_target = WV _ _ _ _ _ _ _ _; first | (guard_target = WV _ (blkNm M_law_bag _ kd_law_bag_0 gl_law_bag_0) _ _ (.Name "cell" _) _ _ _; refine wv_name 1 (t_law_bag_0_cell _) (by decide) ?_) | refine wv_tup rfl ?_)
  | (guard_target = WVs _ _ _ _ _ _ _ _; first | refine wvs_cons ?_ | refine wvs_nil ?_)
  | walk_at "dw_d"
  | fail)
set_option hygiene false in
local macro_rules | `(tactic| walk_at "st_law_take") => `(tactic| first
  | (guard_target = WB _ _ _ _ _ _; first | (guard_target = WB _ _ _ (.Name _ _) _ _; first | (guard_target = WB _ M_law_take _ (.Name "bag" _) _ _; first | refine wb_mu 0 r_law_take_bag rfl ?_ | refine wb_of ?_) | (guard_target = WB _ M_law_take _ (.Name "many" _) _ _; first | refine wb_mu 1 r_law_take_many rfl ?_ | refine wb_of ?_) | (guard_target = WB _ M_law_take _ (.Name "cell" _) _ _; first | refine wb_mu 2 r_law_take_cell rfl ?_ | refine wb_of ?_) | (guard_target = WB _ M_law_take _ (.Name "stirred" _) _ _; first | refine wb_mu 3 r_law_take_stirred rfl ?_ | refine wb_of ?_) | (guard_target = WB _ M_law_take _ (.Name "drawn" _) _ _; first | refine wb_mu 4 r_law_take_drawn rfl ?_ | refine wb_of ?_) | (guard_target = WB _ M_law_take _ (.Name "begin" _) _ _; first | refine wb_mu 5 r_law_take_begin rfl ?_ | refine wb_of ?_) | (guard_target = WB _ M_law_take _ (.Name "second" _) _ _; first | refine wb_mu 6 r_law_take_second rfl ?_ | refine wb_of ?_) | refine wb_of ?_) | refine wb_of ?_)
  | (guard_target = WE _ _ _ _ _ _; first
     | (guard_target = WE _ _ _ (.Name _ _) _ _; first | (guard_target = WE _ M_law_take _ (.Name "bag" _) _ _; refine we_var 0 r_law_take_bag rfl ?_) | (guard_target = WE _ M_law_take _ (.Name "many" _) _ _; refine we_var 1 r_law_take_many rfl ?_) | (guard_target = WE _ M_law_take _ (.Name "cell" _) _ _; refine we_var 2 r_law_take_cell rfl ?_) | (guard_target = WE _ M_law_take _ (.Name "stirred" _) _ _; refine we_var 3 r_law_take_stirred rfl ?_) | (guard_target = WE _ M_law_take _ (.Name "drawn" _) _ _; refine we_var 4 r_law_take_drawn rfl ?_) | (guard_target = WE _ M_law_take _ (.Name "begin" _) _ _; refine we_var 5 r_law_take_begin rfl ?_) | (guard_target = WE _ M_law_take _ (.Name "second" _) _ _; refine we_var 6 r_law_take_second rfl ?_))
     | (guard_target = WE _ _ _ (.Constant _ _ _) _ _; first | refine we_int ?_ | refine we_str ?_ | refine we_bool ?_ | refine we_none ?_)
     | (guard_target = WE _ _ _ (.Subscript _ _ _) _ _; first | (guard_target = WE _ M_law_take _ (.Subscript (.Name "bag" _) (.Constant (.int 0) _ _) _) _ _; refine we_bag0 r_law_take_bag rfl hF fun n hn => ?_) | (guard_target = WE _ M_law_take _ (.Subscript (.Name "bag" _) (.Constant (.int 1) _ _) _) _ _; refine we_bag1 r_law_take_bag rfl hF fun n hn hn2 => ?_) | (guard_target = WE _ M_law_take _ (.Subscript (.Name "bag" _) (.Constant (.int 2) _ _) _) _ _; refine we_bag2 r_law_take_bag rfl hF fun n hn => ?_) | (guard_target = WE _ M_law_take _ (.Subscript (.Name "bag" _) (.Constant (.int 3) _ _) _) _ _; refine we_bag3 r_law_take_bag rfl hF fun ns hln hns => ?_) | refine we_ix ?_ | refine we_slice ?_)
     | (guard_target = WE _ _ _ (.Call (.Name _ _) _ _ _) _ _; first | (guard_target = WE _ M_law_take _ (.Call (.Name "int" _) _ _ _) _ _; refine we_toint B.int g_law_take_int ?_))
     | (guard_target = WE _ _ _ (.BinOp _ _ _ _) _ _; first | refine we_add ?_ | refine we_sub ?_ | refine we_mul ?_ | refine we_mod ?_ | refine we_fdiv ?_ | refine we_pow ?_)
     | (guard_target = WE _ _ _ (.Compare _ _ _ _) _ _; first | refine we_eq ?_ | refine we_ne ?_ | refine we_lt ?_ | refine we_le ?_ | refine we_gt ?_ | refine we_ge ?_ | refine we_in ?_ | refine we_notin ?_)
     | walk_at "dw_we")
  | (guard_target = WT _ _ _ _ _ _; walk_at "dw_wt")
  | (guard_target = WL _ _ _ _ _ _; first | refine wl_cons ?_ | refine wl_nil ?_)
  | (guard_target = WW _ _ _ _ _ _; first | refine ww_and ?_ | refine ww_or ?_ | refine ww_and1 ?_ | refine ww_or1 ?_)
  | (guard_target = WO _ _ _ _ _ _; first | refine wo_none ?_ | refine wo_some ?_)
  | (guard_target = WF _ _ _ _ _ _; first | refine wf_list ?_ | refine wf_lc ?_)
  | (guard_target = WS _ _ _ _ _ _; first | refine ws_cons ?_ | refine ws_nil ?_)
  | (guard_target = W1 _ _ _ _ _ _; first | walk_at "dw_1" | (guard_target = W1 _ M_law_take _ (.Assign [(.Name "bag" _)] (.List _ _) _) _ _; refine w1_set 0 t_law_take_bag ?_) | (guard_target = W1 _ M_law_take _ (.Assign [(.Name "bag" _)] (.ListComp _ _ _ _) _) _ _; refine w1_lc 0 l_law_take_bag ?_) | (guard_target = W1 _ M_law_take _ (.Assign [(.Name "many" _)] (.List _ _) _) _ _; refine w1_set 1 t_law_take_many ?_) | (guard_target = W1 _ M_law_take _ (.Assign [(.Name "many" _)] (.ListComp _ _ _ _) _) _ _; refine w1_lc 1 l_law_take_many ?_) | (guard_target = W1 _ M_law_take _ (.Assign [(.Name "cell" _)] (.List _ _) _) _ _; refine w1_set 2 t_law_take_cell ?_) | (guard_target = W1 _ M_law_take _ (.Assign [(.Name "cell" _)] (.ListComp _ _ _ _) _) _ _; refine w1_lc 2 l_law_take_cell ?_) | (guard_target = W1 _ M_law_take _ (.Assign [(.Name "stirred" _)] (.List _ _) _) _ _; refine w1_set 3 t_law_take_stirred ?_) | (guard_target = W1 _ M_law_take _ (.Assign [(.Name "stirred" _)] (.ListComp _ _ _ _) _) _ _; refine w1_lc 3 l_law_take_stirred ?_) | (guard_target = W1 _ M_law_take _ (.Assign [(.Name "drawn" _)] (.List _ _) _) _ _; refine w1_set 4 t_law_take_drawn ?_) | (guard_target = W1 _ M_law_take _ (.Assign [(.Name "drawn" _)] (.ListComp _ _ _ _) _) _ _; refine w1_lc 4 l_law_take_drawn ?_) | (guard_target = W1 _ M_law_take _ (.Assign [(.Name "begin" _)] (.List _ _) _) _ _; refine w1_set 5 t_law_take_begin ?_) | (guard_target = W1 _ M_law_take _ (.Assign [(.Name "begin" _)] (.ListComp _ _ _ _) _) _ _; refine w1_lc 5 l_law_take_begin ?_) | (guard_target = W1 _ M_law_take _ (.Assign [(.Name "second" _)] (.List _ _) _) _ _; refine w1_set 6 t_law_take_second ?_) | (guard_target = W1 _ M_law_take _ (.Assign [(.Name "second" _)] (.ListComp _ _ _ _) _) _ _; refine w1_lc 6 l_law_take_second ?_) | (guard_target = W1 _ _ _ (.Assign [(.Subscript (.Name "bag" _) (.Constant (.int 0) _ _) _)] _ _) _ _; refine w1_bag0 r_law_take_bag rfl hF ?_) | (guard_target = W1 _ _ _ (.Assign [(.Subscript (.Name "bag" _) (.Constant (.int 1) _ _) _)] _ _) _ _; refine w1_bag1 r_law_take_bag rfl hF ?_) | (guard_target = W1 _ _ _ (.AugAssign (.Subscript (.Name "bag" _) (.Constant (.int 2) _ _) _) _ _ _) _ _; refine w1_bag2 r_law_take_bag rfl hF ?_) | ((first | (guard_target = W1 _ _ _ (.Assign [.Name _ _] (.Call _ _ _ _) _) _ _) | (guard_target = W1 _ _ _ (.Assign [.Name _ _] (.BinOp _ _ _ _) _) _ _) | (guard_target = W1 _ _ _ (.Assign [.Name _ _] (.Name _ _) _) _ _) | (guard_target = W1 _ _ _ (.Assign [.Name _ _] (.Subscript _ _ _) _) _ _) | (guard_target = W1 _ _ _ (.Assign [.Name _ _] (.Constant _ _ _) _) _ _) | (guard_target = W1 _ _ _ (.Assign [.Name _ _] (.Compare _ _ _ _) _) _ _) | (guard_target = W1 _ _ _ (.Assign [.Name _ _] (.BoolOp _ _ _) _) _ _) | (guard_target = W1 _ _ _ (.Assign [.Name _ _] (.IfExp _ _ _ _) _) _ _) | (guard_target = W1 _ _ _ (.Assign [.Name _ _] (.Tuple _ _ _) _) _ _) | (guard_target = W1 _ _ _ (.Assign [.Name _ _] (.UnaryOp _ _ _) _) _ _)); first | (guard_target = W1 _ M_law_take _ (.Assign [(.Name "bag" _)] _ _) _ _; refine w1_set 0 t_law_take_bag ?_) | (guard_target = W1 _ M_law_take _ (.Assign [(.Name "many" _)] _ _) _ _; refine w1_set 1 t_law_take_many ?_) | (guard_target = W1 _ M_law_take _ (.Assign [(.Name "cell" _)] _ _) _ _; refine w1_set 2 t_law_take_cell ?_) | (guard_target = W1 _ M_law_take _ (.Assign [(.Name "stirred" _)] _ _) _ _; refine w1_set 3 t_law_take_stirred ?_) | (guard_target = W1 _ M_law_take _ (.Assign [(.Name "drawn" _)] _ _) _ _; refine w1_set 4 t_law_take_drawn ?_) | (guard_target = W1 _ M_law_take _ (.Assign [(.Name "begin" _)] _ _) _ _; refine w1_set 5 t_law_take_begin ?_) | (guard_target = W1 _ M_law_take _ (.Assign [(.Name "second" _)] _ _) _ _; refine w1_set 6 t_law_take_second ?_)) | (guard_target = W1 _ _ _ (.AugAssign _ _ _ _) _ _; first | (guard_target = W1 _ M_law_take _ (.AugAssign (.Name "bag" _) _ _ _) _ _; first | refine w1_addI 0 t_law_take_bag rfl ?_ | refine w1_subI 0 t_law_take_bag rfl ?_) | (guard_target = W1 _ M_law_take _ (.AugAssign (.Name "many" _) _ _ _) _ _; first | refine w1_addI 1 t_law_take_many rfl ?_ | refine w1_subI 1 t_law_take_many rfl ?_) | (guard_target = W1 _ M_law_take _ (.AugAssign (.Name "cell" _) _ _ _) _ _; first | refine w1_addI 2 t_law_take_cell rfl ?_ | refine w1_subI 2 t_law_take_cell rfl ?_) | (guard_target = W1 _ M_law_take _ (.AugAssign (.Name "stirred" _) _ _ _) _ _; first | refine w1_addI 3 t_law_take_stirred rfl ?_ | refine w1_subI 3 t_law_take_stirred rfl ?_) | (guard_target = W1 _ M_law_take _ (.AugAssign (.Name "drawn" _) _ _ _) _ _; first | refine w1_addI 4 t_law_take_drawn rfl ?_ | refine w1_subI 4 t_law_take_drawn rfl ?_) | (guard_target = W1 _ M_law_take _ (.AugAssign (.Name "begin" _) _ _ _) _ _; first | refine w1_addI 5 t_law_take_begin rfl ?_ | refine w1_subI 5 t_law_take_begin rfl ?_) | (guard_target = W1 _ M_law_take _ (.AugAssign (.Name "second" _) _ _ _) _ _; first | refine w1_addI 6 t_law_take_second rfl ?_ | refine w1_subI 6 t_law_take_second rfl ?_)) | (guard_target = W1 _ _ _ (.Assign [.Tuple _ _ _] _ _) _ _; refine w1_asg ?_))
  | (guard_target = WI _ _ _ _ _ _ _; first | refine wi_seq ?_)
  | (guard_target = WG _ _ _ _ _ _ _; first | (guard_target = WG _ M_law_take _ (.Name "bag" _) _ _ _; refine wg_name 0 t_law_take_bag ?_) | (guard_target = WG _ M_law_take _ (.Name "many" _) _ _ _; refine wg_name 1 t_law_take_many ?_) | (guard_target = WG _ M_law_take _ (.Name "cell" _) _ _ _; refine wg_name 2 t_law_take_cell ?_) | (guard_target = WG _ M_law_take _ (.Name "stirred" _) _ _ _; refine wg_name 3 t_law_take_stirred ?_) | (guard_target = WG _ M_law_take _ (.Name "drawn" _) _ _ _; refine wg_name 4 t_law_take_drawn ?_) | (guard_target = WG _ M_law_take _ (.Name "begin" _) _ _ _; refine wg_name 5 t_law_take_begin ?_) | (guard_target = WG _ M_law_take _ (.Name "second" _) _ _ _; refine wg_name 6 t_law_take_second ?_) | refine wg_tup rfl ?_)
  | (guard_target = WH _ _ _ _ _ _ _; first | refine wh_cons ?_ | refine wh_nil ?_)
  | (guard_target = WV _ _ _ _ _ _ _ _; first | refine wv_tup rfl ?_)
  | (guard_target = WVs _ _ _ _ _ _ _ _; first | refine wvs_cons ?_ | refine wvs_nil ?_)
  | walk_at "dw_d"
  | fail)
set_option hygiene false in
local macro_rules | `(tactic| walk_at "st_law_some") => `(tactic| first
  | (guard_target = WB _ _ _ _ _ _; first | (guard_target = WB _ _ _ (.Name _ _) _ _; first | (guard_target = WB _ M_law_some _ (.Name "bag" _) _ _; first | refine wb_mu 0 r_law_some_bag rfl ?_ | refine wb_of ?_) | (guard_target = WB _ M_law_some _ (.Name "things" _) _ _; first | refine wb_mu 1 r_law_some_things rfl ?_ | refine wb_of ?_) | refine wb_of ?_) | refine wb_of ?_)
  | (guard_target = WE _ _ _ _ _ _; first
     | (guard_target = WE _ _ _ (.Name _ _) _ _; first | (guard_target = WE _ M_law_some _ (.Name "bag" _) _ _; refine we_var 0 r_law_some_bag rfl ?_) | (guard_target = WE _ M_law_some _ (.Name "things" _) _ _; refine we_var 1 r_law_some_things rfl ?_))
     | (guard_target = WE _ _ _ (.Constant _ _ _) _ _; first | refine we_int ?_ | refine we_str ?_ | refine we_bool ?_ | refine we_none ?_)
     | (guard_target = WE _ _ _ (.Subscript _ _ _) _ _; first | (guard_target = WE _ M_law_some _ (.Subscript (.Name "bag" _) (.Constant (.int 0) _ _) _) _ _; refine we_bag0 r_law_some_bag rfl hF fun n hn => ?_) | (guard_target = WE _ M_law_some _ (.Subscript (.Name "bag" _) (.Constant (.int 1) _ _) _) _ _; refine we_bag1 r_law_some_bag rfl hF fun n hn hn2 => ?_) | (guard_target = WE _ M_law_some _ (.Subscript (.Name "bag" _) (.Constant (.int 2) _ _) _) _ _; refine we_bag2 r_law_some_bag rfl hF fun n hn => ?_) | (guard_target = WE _ M_law_some _ (.Subscript (.Name "bag" _) (.Constant (.int 3) _ _) _) _ _; refine we_bag3 r_law_some_bag rfl hF fun ns hln hns => ?_) | refine we_ix ?_ | refine we_slice ?_)
     | (guard_target = WE _ _ _ (.Call (.Name _ _) _ _ _) _ _; first | (guard_target = WE _ M_law_some _ (.Call (.Name "_law_take" _) _ _ _) _ _; refine we_bag f_law_take g_law_some__law_take (by omega) r_law_some_bag rfl hF ?_) | (guard_target = WE _ M_law_some _ (.Call (.Name "len" _) _ _ _) _ _; refine we_len B.len g_law_some_len ?_))
     | (guard_target = WE _ _ _ (.BinOp _ _ _ _) _ _; first | refine we_add ?_ | refine we_sub ?_ | refine we_mul ?_ | refine we_mod ?_ | refine we_fdiv ?_ | refine we_pow ?_)
     | (guard_target = WE _ _ _ (.Compare _ _ _ _) _ _; first | refine we_eq ?_ | refine we_ne ?_ | refine we_lt ?_ | refine we_le ?_ | refine we_gt ?_ | refine we_ge ?_ | refine we_in ?_ | refine we_notin ?_)
     | walk_at "dw_we")
  | (guard_target = WT _ _ _ _ _ _; walk_at "dw_wt")
  | (guard_target = WL _ _ _ _ _ _; first | refine wl_cons ?_ | refine wl_nil ?_)
  | (guard_target = WW _ _ _ _ _ _; first | refine ww_and ?_ | refine ww_or ?_ | refine ww_and1 ?_ | refine ww_or1 ?_)
  | (guard_target = WO _ _ _ _ _ _; first | refine wo_none ?_ | refine wo_some ?_)
  | (guard_target = WF _ _ _ _ _ _; first | refine wf_list ?_ | refine wf_lc ?_)
  | (guard_target = WS _ _ _ _ _ _; first | refine ws_cons ?_ | refine ws_nil ?_)
  | (guard_target = W1 _ _ _ _ _ _; first | walk_at "dw_1" | (guard_target = W1 _ M_law_some _ (.Assign [(.Name "bag" _)] (.List _ _) _) _ _; refine w1_set 0 t_law_some_bag ?_) | (guard_target = W1 _ M_law_some _ (.Assign [(.Name "bag" _)] (.ListComp _ _ _ _) _) _ _; refine w1_lc 0 l_law_some_bag ?_) | (guard_target = W1 _ M_law_some _ (.Assign [(.Name "things" _)] (.List _ _) _) _ _; refine w1_set 1 t_law_some_things ?_) | (guard_target = W1 _ M_law_some _ (.Assign [(.Name "things" _)] (.ListComp _ _ _ _) _) _ _; refine w1_lc 1 l_law_some_things ?_) | (guard_target = W1 _ _ _ (.Assign [(.Subscript (.Name "bag" _) (.Constant (.int 0) _ _) _)] _ _) _ _; refine w1_bag0 r_law_some_bag rfl hF ?_) | (guard_target = W1 _ _ _ (.Assign [(.Subscript (.Name "bag" _) (.Constant (.int 1) _ _) _)] _ _) _ _; refine w1_bag1 r_law_some_bag rfl hF ?_) | (guard_target = W1 _ _ _ (.AugAssign (.Subscript (.Name "bag" _) (.Constant (.int 2) _ _) _) _ _ _) _ _; refine w1_bag2 r_law_some_bag rfl hF ?_) | ((first | (guard_target = W1 _ _ _ (.Assign [.Name _ _] (.Call _ _ _ _) _) _ _) | (guard_target = W1 _ _ _ (.Assign [.Name _ _] (.BinOp _ _ _ _) _) _ _) | (guard_target = W1 _ _ _ (.Assign [.Name _ _] (.Name _ _) _) _ _) | (guard_target = W1 _ _ _ (.Assign [.Name _ _] (.Subscript _ _ _) _) _ _) | (guard_target = W1 _ _ _ (.Assign [.Name _ _] (.Constant _ _ _) _) _ _) | (guard_target = W1 _ _ _ (.Assign [.Name _ _] (.Compare _ _ _ _) _) _ _) | (guard_target = W1 _ _ _ (.Assign [.Name _ _] (.BoolOp _ _ _) _) _ _) | (guard_target = W1 _ _ _ (.Assign [.Name _ _] (.IfExp _ _ _ _) _) _ _) | (guard_target = W1 _ _ _ (.Assign [.Name _ _] (.Tuple _ _ _) _) _ _) | (guard_target = W1 _ _ _ (.Assign [.Name _ _] (.UnaryOp _ _ _) _) _ _)); first | (guard_target = W1 _ M_law_some _ (.Assign [(.Name "bag" _)] _ _) _ _; refine w1_set 0 t_law_some_bag ?_) | (guard_target = W1 _ M_law_some _ (.Assign [(.Name "things" _)] _ _) _ _; refine w1_set 1 t_law_some_things ?_)) | (guard_target = W1 _ _ _ (.AugAssign _ _ _ _) _ _; first | (guard_target = W1 _ M_law_some _ (.AugAssign (.Name "bag" _) _ _ _) _ _; first | refine w1_addI 0 t_law_some_bag rfl ?_ | refine w1_subI 0 t_law_some_bag rfl ?_) | (guard_target = W1 _ M_law_some _ (.AugAssign (.Name "things" _) _ _ _) _ _; first | refine w1_addI 1 t_law_some_things rfl ?_ | refine w1_subI 1 t_law_some_things rfl ?_)) | (guard_target = W1 _ _ _ (.Assign [.Tuple _ _ _] _ _) _ _; refine w1_asg ?_))
  | (guard_target = WI _ _ _ _ _ _ _; first | refine wi_seq ?_)
  | (guard_target = WG _ _ _ _ _ _ _; first | (guard_target = WG _ M_law_some _ (.Name "bag" _) _ _ _; refine wg_name 0 t_law_some_bag ?_) | (guard_target = WG _ M_law_some _ (.Name "things" _) _ _ _; refine wg_name 1 t_law_some_things ?_) | refine wg_tup rfl ?_)
  | (guard_target = WH _ _ _ _ _ _ _; first | refine wh_cons ?_ | refine wh_nil ?_)
  | (guard_target = WV _ _ _ _ _ _ _ _; first | refine wv_tup rfl ?_)
  | (guard_target = WVs _ _ _ _ _ _ _ _; first | refine wvs_cons ?_ | refine wvs_nil ?_)
  | walk_at "dw_d"
  | fail)
set_option hygiene false in
local macro_rules | `(tactic| walk_at "st_law_mixed") => `(tactic| first
  | (guard_target = WB _ _ _ _ _ _; first | (guard_target = WB _ _ _ (.Name _ _) _ _; first | (guard_target = WB _ M_law_mixed _ (.Name "bag" _) _ _; first | refine wb_mu 0 r_law_mixed_bag rfl ?_ | refine wb_of ?_) | (guard_target = WB _ M_law_mixed _ (.Name "things" _) _ _; first | refine wb_mu 1 r_law_mixed_things rfl ?_ | refine wb_of ?_) | (guard_target = WB _ M_law_mixed _ (.Name "found" _) _ _; first | refine wb_mu 2 r_law_mixed_found rfl ?_ | refine wb_of ?_) | (guard_target = WB _ M_law_mixed _ (.Name "thing" _) _ _; first | refine wb_mu 3 r_law_mixed_thing rfl ?_ | refine wb_of ?_) | refine wb_of ?_) | refine wb_of ?_)
  | (guard_target = WE _ _ _ _ _ _; first
     | (guard_target = WE _ _ _ (.Name _ _) _ _; first | (guard_target = WE _ M_law_mixed _ (.Name "bag" _) _ _; refine we_var 0 r_law_mixed_bag rfl ?_) | (guard_target = WE _ M_law_mixed _ (.Name "things" _) _ _; refine we_var 1 r_law_mixed_things rfl ?_) | (guard_target = WE _ M_law_mixed _ (.Name "found" _) _ _; refine we_var 2 r_law_mixed_found rfl ?_) | (guard_target = WE _ M_law_mixed _ (.Name "thing" _) _ _; refine we_var 3 r_law_mixed_thing rfl ?_))
     | (guard_target = WE _ _ _ (.Constant _ _ _) _ _; first | refine we_int ?_ | refine we_str ?_ | refine we_bool ?_ | refine we_none ?_)
     | (guard_target = WE _ _ _ (.Subscript _ _ _) _ _; first | (guard_target = WE _ M_law_mixed _ (.Subscript (.Name "bag" _) (.Constant (.int 0) _ _) _) _ _; refine we_bag0 r_law_mixed_bag rfl hF fun n hn => ?_) | (guard_target = WE _ M_law_mixed _ (.Subscript (.Name "bag" _) (.Constant (.int 1) _ _) _) _ _; refine we_bag1 r_law_mixed_bag rfl hF fun n hn hn2 => ?_) | (guard_target = WE _ M_law_mixed _ (.Subscript (.Name "bag" _) (.Constant (.int 2) _ _) _) _ _; refine we_bag2 r_law_mixed_bag rfl hF fun n hn => ?_) | (guard_target = WE _ M_law_mixed _ (.Subscript (.Name "bag" _) (.Constant (.int 3) _ _) _) _ _; refine we_bag3 r_law_mixed_bag rfl hF fun ns hln hns => ?_) | refine we_ix ?_ | refine we_slice ?_)
     | (guard_target = WE _ _ _ (.Call (.Name _ _) _ _ _) _ _; first | (guard_target = WE _ M_law_mixed _ (.Call (.Name "_law_take" _) _ _ _) _ _; refine we_bag f_law_take g_law_mixed__law_take (by omega) r_law_mixed_bag rfl hF ?_) | (guard_target = WE _ M_law_mixed _ (.Call (.Name "len" _) _ _ _) _ _; refine we_len B.len g_law_mixed_len ?_))
     | (guard_target = WE _ _ _ (.BinOp _ _ _ _) _ _; first | refine we_add ?_ | refine we_sub ?_ | refine we_mul ?_ | refine we_mod ?_ | refine we_fdiv ?_ | refine we_pow ?_)
     | (guard_target = WE _ _ _ (.Compare _ _ _ _) _ _; first | refine we_eq ?_ | refine we_ne ?_ | refine we_lt ?_ | refine we_le ?_ | refine we_gt ?_ | refine we_ge ?_ | refine we_in ?_ | refine we_notin ?_)
     | walk_at "dw_we")
  | (guard_target = WT _ _ _ _ _ _; walk_at "dw_wt")
  | (guard_target = WL _ _ _ _ _ _; first | refine wl_cons ?_ | refine wl_nil ?_)
  | (guard_target = WW _ _ _ _ _ _; first | refine ww_and ?_ | refine ww_or ?_ | refine ww_and1 ?_ | refine ww_or1 ?_)
  | (guard_target = WO _ _ _ _ _ _; first | refine wo_none ?_ | refine wo_some ?_)
  | (guard_target = WF _ _ _ _ _ _; first | refine wf_list ?_ | refine wf_lc ?_)
  | (guard_target = WS _ _ _ _ _ _; first | refine ws_cons ?_ | refine ws_nil ?_)
  | (guard_target = W1 _ _ _ _ _ _; first | walk_at "dw_1" | (guard_target = W1 _ M_law_mixed _ (.Assign [(.Name "bag" _)] (.List _ _) _) _ _; refine w1_set 0 t_law_mixed_bag ?_) | (guard_target = W1 _ M_law_mixed _ (.Assign [(.Name "bag" _)] (.ListComp _ _ _ _) _) _ _; refine w1_lc 0 l_law_mixed_bag ?_) | (guard_target = W1 _ M_law_mixed _ (.Assign [(.Name "things" _)] (.List _ _) _) _ _; refine w1_set 1 t_law_mixed_things ?_) | (guard_target = W1 _ M_law_mixed _ (.Assign [(.Name "things" _)] (.ListComp _ _ _ _) _) _ _; refine w1_lc 1 l_law_mixed_things ?_) | (guard_target = W1 _ M_law_mixed _ (.Expr (.Call (.Attribute (.Name "found" _) "append" _) _ _ _) _) _ _; refine w1_append 2 r_law_mixed_found rfl ?_) | (guard_target = W1 _ M_law_mixed _ (.Expr (.Call (.Attribute (.Name "found" _) "extend" _) _ _ _) _) _ _; refine w1_extend 2 r_law_mixed_found rfl ?_) | (guard_target = W1 _ M_law_mixed _ (.Expr (.Call (.Attribute (.Name "found" _) "insert" _) _ _ _) _) _ _; refine w1_insert 2 r_law_mixed_found rfl ?_) | (guard_target = W1 _ M_law_mixed _ (.Assign [(.Name "found" _)] (.List _ _) _) _ _; refine w1_own 2 t_law_mixed_found (wf_list ?_)) | (guard_target = W1 _ M_law_mixed _ (.Assign [(.Name "found" _)] (.ListComp _ _ _ _) _) _ _; refine w1_lcOwn 2 l_law_mixed_found ?_) | (guard_target = W1 _ M_law_mixed _ (.Assign [(.Name "thing" _)] (.List _ _) _) _ _; refine w1_set 3 t_law_mixed_thing ?_) | (guard_target = W1 _ M_law_mixed _ (.Assign [(.Name "thing" _)] (.ListComp _ _ _ _) _) _ _; refine w1_lc 3 l_law_mixed_thing ?_) | (guard_target = W1 _ _ _ (.Assign [(.Subscript (.Name "bag" _) (.Constant (.int 0) _ _) _)] _ _) _ _; refine w1_bag0 r_law_mixed_bag rfl hF ?_) | (guard_target = W1 _ _ _ (.Assign [(.Subscript (.Name "bag" _) (.Constant (.int 1) _ _) _)] _ _) _ _; refine w1_bag1 r_law_mixed_bag rfl hF ?_) | (guard_target = W1 _ _ _ (.AugAssign (.Subscript (.Name "bag" _) (.Constant (.int 2) _ _) _) _ _ _) _ _; refine w1_bag2 r_law_mixed_bag rfl hF ?_) | ((first | (guard_target = W1 _ _ _ (.Assign [.Name _ _] (.Call _ _ _ _) _) _ _) | (guard_target = W1 _ _ _ (.Assign [.Name _ _] (.BinOp _ _ _ _) _) _ _) | (guard_target = W1 _ _ _ (.Assign [.Name _ _] (.Name _ _) _) _ _) | (guard_target = W1 _ _ _ (.Assign [.Name _ _] (.Subscript _ _ _) _) _ _) | (guard_target = W1 _ _ _ (.Assign [.Name _ _] (.Constant _ _ _) _) _ _) | (guard_target = W1 _ _ _ (.Assign [.Name _ _] (.Compare _ _ _ _) _) _ _) | (guard_target = W1 _ _ _ (.Assign [.Name _ _] (.BoolOp _ _ _) _) _ _) | (guard_target = W1 _ _ _ (.Assign [.Name _ _] (.IfExp _ _ _ _) _) _ _) | (guard_target = W1 _ _ _ (.Assign [.Name _ _] (.Tuple _ _ _) _) _ _) | (guard_target = W1 _ _ _ (.Assign [.Name _ _] (.UnaryOp _ _ _) _) _ _)); first | (guard_target = W1 _ M_law_mixed _ (.Assign [(.Name "bag" _)] _ _) _ _; refine w1_set 0 t_law_mixed_bag ?_) | (guard_target = W1 _ M_law_mixed _ (.Assign [(.Name "things" _)] _ _) _ _; refine w1_set 1 t_law_mixed_things ?_) | (guard_target = W1 _ M_law_mixed _ (.Assign [(.Name "found" _)] _ _) _ _; refine w1_set 2 t_law_mixed_found ?_) | (guard_target = W1 _ M_law_mixed _ (.Assign [(.Name "thing" _)] _ _) _ _; refine w1_set 3 t_law_mixed_thing ?_)) | (guard_target = W1 _ _ _ (.AugAssign _ _ _ _) _ _; first | (guard_target = W1 _ M_law_mixed _ (.AugAssign (.Name "bag" _) _ _ _) _ _; first | refine w1_addI 0 t_law_mixed_bag rfl ?_ | refine w1_subI 0 t_law_mixed_bag rfl ?_) | (guard_target = W1 _ M_law_mixed _ (.AugAssign (.Name "things" _) _ _ _) _ _; first | refine w1_addI 1 t_law_mixed_things rfl ?_ | refine w1_subI 1 t_law_mixed_things rfl ?_) | (guard_target = W1 _ M_law_mixed _ (.AugAssign (.Name "found" _) _ _ _) _ _; first | refine w1_addI 2 t_law_mixed_found rfl ?_ | refine w1_subI 2 t_law_mixed_found rfl ?_) | (guard_target = W1 _ M_law_mixed _ (.AugAssign (.Name "thing" _) _ _ _) _ _; first | refine w1_addI 3 t_law_mixed_thing rfl ?_ | refine w1_subI 3 t_law_mixed_thing rfl ?_)) | (guard_target = W1 _ _ _ (.Assign [.Tuple _ _ _] _ _) _ _; refine w1_asg ?_))
  | (guard_target = WI _ _ _ _ _ _ _; first | refine wi_seq ?_)
  | (guard_target = WG _ _ _ _ _ _ _; first | (guard_target = WG _ M_law_mixed _ (.Name "bag" _) _ _ _; refine wg_name 0 t_law_mixed_bag ?_) | (guard_target = WG _ M_law_mixed _ (.Name "things" _) _ _ _; refine wg_name 1 t_law_mixed_things ?_) | (guard_target = WG _ M_law_mixed _ (.Name "found" _) _ _ _; refine wg_name 2 t_law_mixed_found ?_) | (guard_target = WG _ M_law_mixed _ (.Name "thing" _) _ _ _; refine wg_name 3 t_law_mixed_thing ?_) | refine wg_tup rfl ?_)
  | (guard_target = WH _ _ _ _ _ _ _; first | refine wh_cons ?_ | refine wh_nil ?_)
  | (guard_target = WV _ _ _ _ _ _ _ _; first | refine wv_tup rfl ?_)
  | (guard_target = WVs _ _ _ _ _ _ _ _; first | refine wvs_cons ?_ | refine wvs_nil ?_)
  | walk_at "dw_d"
  | fail)
set_option hygiene false in
local macro_rules | `(tactic| walk_at "st_law_alike") => `(tactic| first
  | (guard_target = WB _ _ _ _ _ _; first | (guard_target = WB _ _ _ (.Name _ _) _ _; first | (guard_target = WB _ M_law_alike _ (.Name "found" _) _ _; first | refine wb_mu 0 r_law_alike_found rfl ?_ | refine wb_of ?_) | (guard_target = WB _ M_law_alike _ (.Name "due" _) _ _; first | refine wb_mu 1 r_law_alike_due rfl ?_ | refine wb_of ?_) | refine wb_of ?_) | refine wb_of ?_)
  | (guard_target = WE _ _ _ _ _ _; first
     | (guard_target = WE _ _ _ (.Name _ _) _ _; first | (guard_target = WE _ M_law_alike _ (.Name "found" _) _ _; refine we_var 0 r_law_alike_found rfl ?_) | (guard_target = WE _ M_law_alike _ (.Name "due" _) _ _; refine we_var 1 r_law_alike_due rfl ?_))
     | (guard_target = WE _ _ _ (.Constant _ _ _) _ _; first | refine we_int ?_ | refine we_str ?_ | refine we_bool ?_ | refine we_none ?_)
     | (guard_target = WE _ _ _ (.Subscript _ _ _) _ _; first | refine we_ix ?_ | refine we_slice ?_)
     | (guard_target = WE _ _ _ (.Call (.Name _ _) _ _ _) _ _; first | (guard_target = WE _ M_law_alike _ (.Call (.Name "repr" _) _ _ _) _ _; refine we_repr hG B.repr g_law_alike_repr ?_))
     | (guard_target = WE _ _ _ (.BinOp _ _ _ _) _ _; first | refine we_add ?_ | refine we_sub ?_ | refine we_mul ?_ | refine we_mod ?_ | refine we_fdiv ?_ | refine we_pow ?_)
     | (guard_target = WE _ _ _ (.Compare _ _ _ _) _ _; first | refine we_eq ?_ | refine we_ne ?_ | refine we_lt ?_ | refine we_le ?_ | refine we_gt ?_ | refine we_ge ?_ | refine we_in ?_ | refine we_notin ?_)
     | walk_at "dw_we")
  | (guard_target = WT _ _ _ _ _ _; walk_at "dw_wt")
  | (guard_target = WL _ _ _ _ _ _; first | refine wl_cons ?_ | refine wl_nil ?_)
  | (guard_target = WW _ _ _ _ _ _; first | refine ww_and ?_ | refine ww_or ?_ | refine ww_and1 ?_ | refine ww_or1 ?_)
  | (guard_target = WO _ _ _ _ _ _; first | refine wo_none ?_ | refine wo_some ?_)
  | (guard_target = WF _ _ _ _ _ _; first | refine wf_list ?_ | refine wf_lc ?_)
  | (guard_target = WS _ _ _ _ _ _; first | refine ws_cons ?_ | refine ws_nil ?_)
  | (guard_target = W1 _ _ _ _ _ _; first | walk_at "dw_1" | (guard_target = W1 _ M_law_alike _ (.Assign [(.Name "found" _)] (.List _ _) _) _ _; refine w1_set 0 t_law_alike_found ?_) | (guard_target = W1 _ M_law_alike _ (.Assign [(.Name "found" _)] (.ListComp _ _ _ _) _) _ _; refine w1_lc 0 l_law_alike_found ?_) | (guard_target = W1 _ M_law_alike _ (.Assign [(.Name "due" _)] (.List _ _) _) _ _; refine w1_set 1 t_law_alike_due ?_) | (guard_target = W1 _ M_law_alike _ (.Assign [(.Name "due" _)] (.ListComp _ _ _ _) _) _ _; refine w1_lc 1 l_law_alike_due ?_) | ((first | (guard_target = W1 _ _ _ (.Assign [.Name _ _] (.Call _ _ _ _) _) _ _) | (guard_target = W1 _ _ _ (.Assign [.Name _ _] (.BinOp _ _ _ _) _) _ _) | (guard_target = W1 _ _ _ (.Assign [.Name _ _] (.Name _ _) _) _ _) | (guard_target = W1 _ _ _ (.Assign [.Name _ _] (.Subscript _ _ _) _) _ _) | (guard_target = W1 _ _ _ (.Assign [.Name _ _] (.Constant _ _ _) _) _ _) | (guard_target = W1 _ _ _ (.Assign [.Name _ _] (.Compare _ _ _ _) _) _ _) | (guard_target = W1 _ _ _ (.Assign [.Name _ _] (.BoolOp _ _ _) _) _ _) | (guard_target = W1 _ _ _ (.Assign [.Name _ _] (.IfExp _ _ _ _) _) _ _) | (guard_target = W1 _ _ _ (.Assign [.Name _ _] (.Tuple _ _ _) _) _ _) | (guard_target = W1 _ _ _ (.Assign [.Name _ _] (.UnaryOp _ _ _) _) _ _)); first | (guard_target = W1 _ M_law_alike _ (.Assign [(.Name "found" _)] _ _) _ _; refine w1_set 0 t_law_alike_found ?_) | (guard_target = W1 _ M_law_alike _ (.Assign [(.Name "due" _)] _ _) _ _; refine w1_set 1 t_law_alike_due ?_)) | (guard_target = W1 _ _ _ (.AugAssign _ _ _ _) _ _; first | (guard_target = W1 _ M_law_alike _ (.AugAssign (.Name "found" _) _ _ _) _ _; first | refine w1_addI 0 t_law_alike_found rfl ?_ | refine w1_subI 0 t_law_alike_found rfl ?_) | (guard_target = W1 _ M_law_alike _ (.AugAssign (.Name "due" _) _ _ _) _ _; first | refine w1_addI 1 t_law_alike_due rfl ?_ | refine w1_subI 1 t_law_alike_due rfl ?_)) | (guard_target = W1 _ _ _ (.Assign [.Tuple _ _ _] _ _) _ _; refine w1_asg ?_))
  | (guard_target = WI _ _ _ _ _ _ _; first | refine wi_seq ?_)
  | (guard_target = WG _ _ _ _ _ _ _; first | (guard_target = WG _ M_law_alike _ (.Name "found" _) _ _ _; refine wg_name 0 t_law_alike_found ?_) | (guard_target = WG _ M_law_alike _ (.Name "due" _) _ _ _; refine wg_name 1 t_law_alike_due ?_) | refine wg_tup rfl ?_)
  | (guard_target = WH _ _ _ _ _ _ _; first | refine wh_cons ?_ | refine wh_nil ?_)
  | (guard_target = WV _ _ _ _ _ _ _ _; first | refine wv_tup rfl ?_)
  | (guard_target = WVs _ _ _ _ _ _ _ _; first | refine wvs_cons ?_ | refine wvs_nil ?_)
  | walk_at "dw_d"
  | fail)
set_option hygiene false in
local macro_rules | `(tactic| walk_at "st_law_gcd") => `(tactic| first
  | (guard_target = WB _ _ _ _ _ _; first | (guard_target = WB _ _ _ (.Name _ _) _ _; first | (guard_target = WB _ M_law_gcd _ (.Name "one" _) _ _; first | refine wb_mu 0 r_law_gcd_one rfl ?_ | refine wb_of ?_) | (guard_target = WB _ M_law_gcd _ (.Name "other" _) _ _; first | refine wb_mu 1 r_law_gcd_other rfl ?_ | refine wb_of ?_) | refine wb_of ?_) | refine wb_of ?_)
  | (guard_target = WE _ _ _ _ _ _; first
     | (guard_target = WE _ _ _ (.Name _ _) _ _; first | (guard_target = WE _ M_law_gcd _ (.Name "one" _) _ _; refine we_var 0 r_law_gcd_one rfl ?_) | (guard_target = WE _ M_law_gcd _ (.Name "other" _) _ _; refine we_var 1 r_law_gcd_other rfl ?_))
     | (guard_target = WE _ _ _ (.Constant _ _ _) _ _; first | refine we_int ?_ | refine we_str ?_ | refine we_bool ?_ | refine we_none ?_)
     | (guard_target = WE _ _ _ (.Subscript _ _ _) _ _; first | refine we_ix ?_ | refine we_slice ?_)
     | (guard_target = WE _ _ _ (.Call (.Name _ _) _ _ _) _ _; first | (guard_target = WE _ M_law_gcd _ (.Call (.Name "int" _) _ _ _) _ _; refine we_toint B.int g_law_gcd_int ?_))
     | (guard_target = WE _ _ _ (.BinOp _ _ _ _) _ _; first | refine we_add ?_ | refine we_sub ?_ | refine we_mul ?_ | refine we_mod ?_ | refine we_fdiv ?_ | refine we_pow ?_)
     | (guard_target = WE _ _ _ (.Compare _ _ _ _) _ _; first | refine we_eq ?_ | refine we_ne ?_ | refine we_lt ?_ | refine we_le ?_ | refine we_gt ?_ | refine we_ge ?_ | refine we_in ?_ | refine we_notin ?_)
     | walk_at "dw_we")
  | (guard_target = WT _ _ _ _ _ _; walk_at "dw_wt")
  | (guard_target = WL _ _ _ _ _ _; first | refine wl_cons ?_ | refine wl_nil ?_)
  | (guard_target = WW _ _ _ _ _ _; first | refine ww_and ?_ | refine ww_or ?_ | refine ww_and1 ?_ | refine ww_or1 ?_)
  | (guard_target = WO _ _ _ _ _ _; first | refine wo_none ?_ | refine wo_some ?_)
  | (guard_target = WF _ _ _ _ _ _; first | refine wf_list ?_ | refine wf_lc ?_)
  | (guard_target = WS _ _ _ _ _ _; first | refine ws_cons ?_ | refine ws_nil ?_)
  | (guard_target = W1 _ _ _ _ _ _; first | walk_at "dw_1" | (guard_target = W1 _ _ _ (.Assign [.Tuple [.Name "one" _, .Name "other" _] _ _] (.Tuple _ _ _) _) _ _; refine w1_par 0 1 l_law_gcd_one l_law_gcd_other (by decide) ?_) | (guard_target = W1 _ M_law_gcd _ (.Assign [(.Name "one" _)] (.List _ _) _) _ _; refine w1_set 0 t_law_gcd_one ?_) | (guard_target = W1 _ M_law_gcd _ (.Assign [(.Name "one" _)] (.ListComp _ _ _ _) _) _ _; refine w1_lc 0 l_law_gcd_one ?_) | (guard_target = W1 _ M_law_gcd _ (.Assign [(.Name "other" _)] (.List _ _) _) _ _; refine w1_set 1 t_law_gcd_other ?_) | (guard_target = W1 _ M_law_gcd _ (.Assign [(.Name "other" _)] (.ListComp _ _ _ _) _) _ _; refine w1_lc 1 l_law_gcd_other ?_) | ((first | (guard_target = W1 _ _ _ (.Assign [.Name _ _] (.Call _ _ _ _) _) _ _) | (guard_target = W1 _ _ _ (.Assign [.Name _ _] (.BinOp _ _ _ _) _) _ _) | (guard_target = W1 _ _ _ (.Assign [.Name _ _] (.Name _ _) _) _ _) | (guard_target = W1 _ _ _ (.Assign [.Name _ _] (.Subscript _ _ _) _) _ _) | (guard_target = W1 _ _ _ (.Assign [.Name _ _] (.Constant _ _ _) _) _ _) | (guard_target = W1 _ _ _ (.Assign [.Name _ _] (.Compare _ _ _ _) _) _ _) | (guard_target = W1 _ _ _ (.Assign [.Name _ _] (.BoolOp _ _ _) _) _ _) | (guard_target = W1 _ _ _ (.Assign [.Name _ _] (.IfExp _ _ _ _) _) _ _) | (guard_target = W1 _ _ _ (.Assign [.Name _ _] (.Tuple _ _ _) _) _ _) | (guard_target = W1 _ _ _ (.Assign [.Name _ _] (.UnaryOp _ _ _) _) _ _)); first | (guard_target = W1 _ M_law_gcd _ (.Assign [(.Name "one" _)] _ _) _ _; refine w1_set 0 t_law_gcd_one ?_) | (guard_target = W1 _ M_law_gcd _ (.Assign [(.Name "other" _)] _ _) _ _; refine w1_set 1 t_law_gcd_other ?_)) | (guard_target = W1 _ _ _ (.AugAssign _ _ _ _) _ _; first | (guard_target = W1 _ M_law_gcd _ (.AugAssign (.Name "one" _) _ _ _) _ _; first | refine w1_addI 0 t_law_gcd_one rfl ?_ | refine w1_subI 0 t_law_gcd_one rfl ?_) | (guard_target = W1 _ M_law_gcd _ (.AugAssign (.Name "other" _) _ _ _) _ _; first | refine w1_addI 1 t_law_gcd_other rfl ?_ | refine w1_subI 1 t_law_gcd_other rfl ?_)) | (guard_target = W1 _ _ _ (.Assign [.Tuple _ _ _] _ _) _ _; refine w1_asg ?_))
  | (guard_target = WI _ _ _ _ _ _ _; first | refine wi_seq ?_)
  | (guard_target = WG _ _ _ _ _ _ _; first | (guard_target = WG _ M_law_gcd _ (.Name "one" _) _ _ _; refine wg_name 0 t_law_gcd_one ?_) | (guard_target = WG _ M_law_gcd _ (.Name "other" _) _ _ _; refine wg_name 1 t_law_gcd_other ?_) | refine wg_tup rfl ?_)
  | (guard_target = WH _ _ _ _ _ _ _; first | refine wh_cons ?_ | refine wh_nil ?_)
  | (guard_target = WV _ _ _ _ _ _ _ _; first | refine wv_tup rfl ?_)
  | (guard_target = WVs _ _ _ _ _ _ _ _; first | refine wvs_cons ?_ | refine wvs_nil ?_)
  | walk_at "dw_d"
  | fail)
set_option hygiene false in
local macro_rules | `(tactic| walk_at "st_law_fr") => `(tactic| first
  | (guard_target = WB _ _ _ _ _ _; first | (guard_target = WB _ _ _ (.Name _ _) _ _; first | (guard_target = WB _ M_law_fr _ (.Name "num" _) _ _; first | refine wb_mu 0 r_law_fr_num rfl ?_ | refine wb_of ?_) | (guard_target = WB _ M_law_fr _ (.Name "den" _) _ _; first | refine wb_mu 1 r_law_fr_den rfl ?_ | refine wb_of ?_) | (guard_target = WB _ M_law_fr _ (.Name "common" _) _ _; first | refine wb_mu 2 r_law_fr_common rfl ?_ | refine wb_of ?_) | refine wb_of ?_) | refine wb_of ?_)
  | (guard_target = WE _ _ _ _ _ _; first
     | (guard_target = WE _ _ _ (.Name _ _) _ _; first | (guard_target = WE _ M_law_fr _ (.Name "num" _) _ _; refine we_var 0 r_law_fr_num rfl ?_) | (guard_target = WE _ M_law_fr _ (.Name "den" _) _ _; refine we_var 1 r_law_fr_den rfl ?_) | (guard_target = WE _ M_law_fr _ (.Name "common" _) _ _; refine we_var 2 r_law_fr_common rfl ?_))
     | (guard_target = WE _ _ _ (.Constant _ _ _) _ _; first | refine we_int ?_ | refine we_str ?_ | refine we_bool ?_ | refine we_none ?_)
     | (guard_target = WE _ _ _ (.Subscript _ _ _) _ _; first | refine we_ix ?_ | refine we_slice ?_)
     | (guard_target = WE _ _ _ (.Call (.Name _ _) _ _ _) _ _; first | (guard_target = WE _ M_law_fr _ (.Call (.Name "_law_gcd" _) _ _ _) _ _; first | refine we_call f_law_gcd g_law_fr__law_gcd (by omega) ?_ | refine we_call0 f_law_gcd g_law_fr__law_gcd (by omega) ?_) | (guard_target = WE _ M_law_fr _ (.Call (.Name "abs" _) _ _ _) _ _; refine we_abs B.abs g_law_fr_abs ?_) | (guard_target = WE _ M_law_fr _ (.Call (.Name "int" _) _ _ _) _ _; refine we_toint B.int g_law_fr_int ?_))
     | (guard_target = WE _ _ _ (.BinOp _ _ _ _) _ _; first | refine we_add ?_ | refine we_sub ?_ | refine we_mul ?_ | refine we_mod ?_ | refine we_fdiv ?_ | refine we_pow ?_)
     | (guard_target = WE _ _ _ (.Compare _ _ _ _) _ _; first | refine we_eq ?_ | refine we_ne ?_ | refine we_lt ?_ | refine we_le ?_ | refine we_gt ?_ | refine we_ge ?_ | refine we_in ?_ | refine we_notin ?_)
     | walk_at "dw_we")
  | (guard_target = WT _ _ _ _ _ _; walk_at "dw_wt")
  | (guard_target = WL _ _ _ _ _ _; first | refine wl_cons ?_ | refine wl_nil ?_)
  | (guard_target = WW _ _ _ _ _ _; first | refine ww_and ?_ | refine ww_or ?_ | refine ww_and1 ?_ | refine ww_or1 ?_)
  | (guard_target = WO _ _ _ _ _ _; first | refine wo_none ?_ | refine wo_some ?_)
  | (guard_target = WF _ _ _ _ _ _; first | refine wf_list ?_ | refine wf_lc ?_)
  | (guard_target = WS _ _ _ _ _ _; first | refine ws_cons ?_ | refine ws_nil ?_)
  | (guard_target = W1 _ _ _ _ _ _; first | walk_at "dw_1" | (guard_target = W1 _ M_law_fr _ (.Assign [(.Name "num" _)] (.List _ _) _) _ _; refine w1_set 0 t_law_fr_num ?_) | (guard_target = W1 _ M_law_fr _ (.Assign [(.Name "num" _)] (.ListComp _ _ _ _) _) _ _; refine w1_lc 0 l_law_fr_num ?_) | (guard_target = W1 _ M_law_fr _ (.Assign [(.Name "den" _)] (.List _ _) _) _ _; refine w1_set 1 t_law_fr_den ?_) | (guard_target = W1 _ M_law_fr _ (.Assign [(.Name "den" _)] (.ListComp _ _ _ _) _) _ _; refine w1_lc 1 l_law_fr_den ?_) | (guard_target = W1 _ M_law_fr _ (.Assign [(.Name "common" _)] (.List _ _) _) _ _; refine w1_set 2 t_law_fr_common ?_) | (guard_target = W1 _ M_law_fr _ (.Assign [(.Name "common" _)] (.ListComp _ _ _ _) _) _ _; refine w1_lc 2 l_law_fr_common ?_) | ((first | (guard_target = W1 _ _ _ (.Assign [.Name _ _] (.Call _ _ _ _) _) _ _) | (guard_target = W1 _ _ _ (.Assign [.Name _ _] (.BinOp _ _ _ _) _) _ _) | (guard_target = W1 _ _ _ (.Assign [.Name _ _] (.Name _ _) _) _ _) | (guard_target = W1 _ _ _ (.Assign [.Name _ _] (.Subscript _ _ _) _) _ _) | (guard_target = W1 _ _ _ (.Assign [.Name _ _] (.Constant _ _ _) _) _ _) | (guard_target = W1 _ _ _ (.Assign [.Name _ _] (.Compare _ _ _ _) _) _ _) | (guard_target = W1 _ _ _ (.Assign [.Name _ _] (.BoolOp _ _ _) _) _ _) | (guard_target = W1 _ _ _ (.Assign [.Name _ _] (.IfExp _ _ _ _) _) _ _) | (guard_target = W1 _ _ _ (.Assign [.Name _ _] (.Tuple _ _ _) _) _ _) | (guard_target = W1 _ _ _ (.Assign [.Name _ _] (.UnaryOp _ _ _) _) _ _)); first | (guard_target = W1 _ M_law_fr _ (.Assign [(.Name "num" _)] _ _) _ _; refine w1_set 0 t_law_fr_num ?_) | (guard_target = W1 _ M_law_fr _ (.Assign [(.Name "den" _)] _ _) _ _; refine w1_set 1 t_law_fr_den ?_) | (guard_target = W1 _ M_law_fr _ (.Assign [(.Name "common" _)] _ _) _ _; refine w1_set 2 t_law_fr_common ?_)) | (guard_target = W1 _ _ _ (.AugAssign _ _ _ _) _ _; first | (guard_target = W1 _ M_law_fr _ (.AugAssign (.Name "num" _) _ _ _) _ _; first | refine w1_addI 0 t_law_fr_num rfl ?_ | refine w1_subI 0 t_law_fr_num rfl ?_) | (guard_target = W1 _ M_law_fr _ (.AugAssign (.Name "den" _) _ _ _) _ _; first | refine w1_addI 1 t_law_fr_den rfl ?_ | refine w1_subI 1 t_law_fr_den rfl ?_) | (guard_target = W1 _ M_law_fr _ (.AugAssign (.Name "common" _) _ _ _) _ _; first | refine w1_addI 2 t_law_fr_common rfl ?_ | refine w1_subI 2 t_law_fr_common rfl ?_)) | (guard_target = W1 _ _ _ (.Assign [.Tuple _ _ _] _ _) _ _; refine w1_asg ?_))
  | (guard_target = WI _ _ _ _ _ _ _; first | refine wi_seq ?_)
  | (guard_target = WG _ _ _ _ _ _ _; first | (guard_target = WG _ M_law_fr _ (.Name "num" _) _ _ _; refine wg_name 0 t_law_fr_num ?_) | (guard_target = WG _ M_law_fr _ (.Name "den" _) _ _ _; refine wg_name 1 t_law_fr_den ?_) | (guard_target = WG _ M_law_fr _ (.Name "common" _) _ _ _; refine wg_name 2 t_law_fr_common ?_) | refine wg_tup rfl ?_)
  | (guard_target = WH _ _ _ _ _ _ _; first | refine wh_cons ?_ | refine wh_nil ?_)
  | (guard_target = WV _ _ _ _ _ _ _ _; first | refine wv_tup rfl ?_)
  | (guard_target = WVs _ _ _ _ _ _ _ _; first | refine wvs_cons ?_ | refine wvs_nil ?_)
  | walk_at "dw_d"
  | fail)
set_option hygiene false in
local macro_rules | `(tactic| walk_at "st_law_plus") => `(tactic| first
  | (guard_target = WB _ _ _ _ _ _; first | (guard_target = WB _ _ _ (.Name _ _) _ _; first | (guard_target = WB _ M_law_plus _ (.Name "one" _) _ _; first | refine wb_mu 0 r_law_plus_one rfl ?_ | refine wb_of ?_) | (guard_target = WB _ M_law_plus _ (.Name "other" _) _ _; first | refine wb_mu 1 r_law_plus_other rfl ?_ | refine wb_of ?_) | refine wb_of ?_) | refine wb_of ?_)
  | (guard_target = WE _ _ _ _ _ _; first
     | (guard_target = WE _ _ _ (.Name _ _) _ _; first | (guard_target = WE _ M_law_plus _ (.Name "one" _) _ _; refine we_var 0 r_law_plus_one rfl ?_) | (guard_target = WE _ M_law_plus _ (.Name "other" _) _ _; refine we_var 1 r_law_plus_other rfl ?_))
     | (guard_target = WE _ _ _ (.Constant _ _ _) _ _; first | refine we_int ?_ | refine we_str ?_ | refine we_bool ?_ | refine we_none ?_)
     | (guard_target = WE _ _ _ (.Subscript _ _ _) _ _; first | refine we_ix ?_ | refine we_slice ?_)
     | (guard_target = WE _ _ _ (.Call (.Name _ _) _ _ _) _ _; first | (guard_target = WE _ M_law_plus _ (.Call (.Name "_law_fr" _) _ _ _) _ _; first | refine we_call f_law_fr g_law_plus__law_fr (by omega) ?_ | refine we_call0 f_law_fr g_law_plus__law_fr (by omega) ?_))
     | (guard_target = WE _ _ _ (.BinOp _ _ _ _) _ _; first | refine we_add ?_ | refine we_sub ?_ | refine we_mul ?_ | refine we_mod ?_ | refine we_fdiv ?_ | refine we_pow ?_)
     | (guard_target = WE _ _ _ (.Compare _ _ _ _) _ _; first | refine we_eq ?_ | refine we_ne ?_ | refine we_lt ?_ | refine we_le ?_ | refine we_gt ?_ | refine we_ge ?_ | refine we_in ?_ | refine we_notin ?_)
     | walk_at "dw_we")
  | (guard_target = WT _ _ _ _ _ _; walk_at "dw_wt")
  | (guard_target = WL _ _ _ _ _ _; first | refine wl_cons ?_ | refine wl_nil ?_)
  | (guard_target = WW _ _ _ _ _ _; first | refine ww_and ?_ | refine ww_or ?_ | refine ww_and1 ?_ | refine ww_or1 ?_)
  | (guard_target = WO _ _ _ _ _ _; first | refine wo_none ?_ | refine wo_some ?_)
  | (guard_target = WF _ _ _ _ _ _; first | refine wf_list ?_ | refine wf_lc ?_)
  | (guard_target = WS _ _ _ _ _ _; first | refine ws_cons ?_ | refine ws_nil ?_)
  | (guard_target = W1 _ _ _ _ _ _; first | walk_at "dw_1" | (guard_target = W1 _ M_law_plus _ (.Assign [(.Name "one" _)] (.List _ _) _) _ _; refine w1_set 0 t_law_plus_one ?_) | (guard_target = W1 _ M_law_plus _ (.Assign [(.Name "one" _)] (.ListComp _ _ _ _) _) _ _; refine w1_lc 0 l_law_plus_one ?_) | (guard_target = W1 _ M_law_plus _ (.Assign [(.Name "other" _)] (.List _ _) _) _ _; refine w1_set 1 t_law_plus_other ?_) | (guard_target = W1 _ M_law_plus _ (.Assign [(.Name "other" _)] (.ListComp _ _ _ _) _) _ _; refine w1_lc 1 l_law_plus_other ?_) | ((first | (guard_target = W1 _ _ _ (.Assign [.Name _ _] (.Call _ _ _ _) _) _ _) | (guard_target = W1 _ _ _ (.Assign [.Name _ _] (.BinOp _ _ _ _) _) _ _) | (guard_target = W1 _ _ _ (.Assign [.Name _ _] (.Name _ _) _) _ _) | (guard_target = W1 _ _ _ (.Assign [.Name _ _] (.Subscript _ _ _) _) _ _) | (guard_target = W1 _ _ _ (.Assign [.Name _ _] (.Constant _ _ _) _) _ _) | (guard_target = W1 _ _ _ (.Assign [.Name _ _] (.Compare _ _ _ _) _) _ _) | (guard_target = W1 _ _ _ (.Assign [.Name _ _] (.BoolOp _ _ _) _) _ _) | (guard_target = W1 _ _ _ (.Assign [.Name _ _] (.IfExp _ _ _ _) _) _ _) | (guard_target = W1 _ _ _ (.Assign [.Name _ _] (.Tuple _ _ _) _) _ _) | (guard_target = W1 _ _ _ (.Assign [.Name _ _] (.UnaryOp _ _ _) _) _ _)); first | (guard_target = W1 _ M_law_plus _ (.Assign [(.Name "one" _)] _ _) _ _; refine w1_set 0 t_law_plus_one ?_) | (guard_target = W1 _ M_law_plus _ (.Assign [(.Name "other" _)] _ _) _ _; refine w1_set 1 t_law_plus_other ?_)) | (guard_target = W1 _ _ _ (.AugAssign _ _ _ _) _ _; first | (guard_target = W1 _ M_law_plus _ (.AugAssign (.Name "one" _) _ _ _) _ _; first | refine w1_addI 0 t_law_plus_one rfl ?_ | refine w1_subI 0 t_law_plus_one rfl ?_) | (guard_target = W1 _ M_law_plus _ (.AugAssign (.Name "other" _) _ _ _) _ _; first | refine w1_addI 1 t_law_plus_other rfl ?_ | refine w1_subI 1 t_law_plus_other rfl ?_)) | (guard_target = W1 _ _ _ (.Assign [.Tuple _ _ _] _ _) _ _; refine w1_asg ?_))
  | (guard_target = WI _ _ _ _ _ _ _; first | refine wi_seq ?_)
  | (guard_target = WG _ _ _ _ _ _ _; first | (guard_target = WG _ M_law_plus _ (.Name "one" _) _ _ _; refine wg_name 0 t_law_plus_one ?_) | (guard_target = WG _ M_law_plus _ (.Name "other" _) _ _ _; refine wg_name 1 t_law_plus_other ?_) | refine wg_tup rfl ?_)
  | (guard_target = WH _ _ _ _ _ _ _; first | refine wh_cons ?_ | refine wh_nil ?_)
  | (guard_target = WV _ _ _ _ _ _ _ _; first | refine wv_tup rfl ?_)
  | (guard_target = WVs _ _ _ _ _ _ _ _; first | refine wvs_cons ?_ | refine wvs_nil ?_)
  | walk_at "dw_d"
  | fail)
set_option hygiene false in
local macro_rules | `(tactic| walk_at "st_law_minus") => `(tactic| first
  | (guard_target = WB _ _ _ _ _ _; first | (guard_target = WB _ _ _ (.Name _ _) _ _; first | (guard_target = WB _ M_law_minus _ (.Name "one" _) _ _; first | refine wb_mu 0 r_law_minus_one rfl ?_ | refine wb_of ?_) | (guard_target = WB _ M_law_minus _ (.Name "other" _) _ _; first | refine wb_mu 1 r_law_minus_other rfl ?_ | refine wb_of ?_) | refine wb_of ?_) | refine wb_of ?_)
  | (guard_target = WE _ _ _ _ _ _; first
     | (guard_target = WE _ _ _ (.Name _ _) _ _; first | (guard_target = WE _ M_law_minus _ (.Name "one" _) _ _; refine we_var 0 r_law_minus_one rfl ?_) | (guard_target = WE _ M_law_minus _ (.Name "other" _) _ _; refine we_var 1 r_law_minus_other rfl ?_))
     | (guard_target = WE _ _ _ (.Constant _ _ _) _ _; first | refine we_int ?_ | refine we_str ?_ | refine we_bool ?_ | refine we_none ?_)
     | (guard_target = WE _ _ _ (.Subscript _ _ _) _ _; first | refine we_ix ?_ | refine we_slice ?_)
     | (guard_target = WE _ _ _ (.Call (.Name _ _) _ _ _) _ _; first | (guard_target = WE _ M_law_minus _ (.Call (.Name "_law_fr" _) _ _ _) _ _; first | refine we_call f_law_fr g_law_minus__law_fr (by omega) ?_ | refine we_call0 f_law_fr g_law_minus__law_fr (by omega) ?_))
     | (guard_target = WE _ _ _ (.BinOp _ _ _ _) _ _; first | refine we_add ?_ | refine we_sub ?_ | refine we_mul ?_ | refine we_mod ?_ | refine we_fdiv ?_ | refine we_pow ?_)
     | (guard_target = WE _ _ _ (.Compare _ _ _ _) _ _; first | refine we_eq ?_ | refine we_ne ?_ | refine we_lt ?_ | refine we_le ?_ | refine we_gt ?_ | refine we_ge ?_ | refine we_in ?_ | refine we_notin ?_)
     | walk_at "dw_we")
  | (guard_target = WT _ _ _ _ _ _; walk_at "dw_wt")
  | (guard_target = WL _ _ _ _ _ _; first | refine wl_cons ?_ | refine wl_nil ?_)
  | (guard_target = WW _ _ _ _ _ _; first | refine ww_and ?_ | refine ww_or ?_ | refine ww_and1 ?_ | refine ww_or1 ?_)
  | (guard_target = WO _ _ _ _ _ _; first | refine wo_none ?_ | refine wo_some ?_)
  | (guard_target = WF _ _ _ _ _ _; first | refine wf_list ?_ | refine wf_lc ?_)
  | (guard_target = WS _ _ _ _ _ _; first | refine ws_cons ?_ | refine ws_nil ?_)
  | (guard_target = W1 _ _ _ _ _ _; first | walk_at "dw_1" | (guard_target = W1 _ M_law_minus _ (.Assign [(.Name "one" _)] (.List _ _) _) _ _; refine w1_set 0 t_law_minus_one ?_) | (guard_target = W1 _ M_law_minus _ (.Assign [(.Name "one" _)] (.ListComp _ _ _ _) _) _ _; refine w1_lc 0 l_law_minus_one ?_) | (guard_target = W1 _ M_law_minus _ (.Assign [(.Name "other" _)] (.List _ _) _) _ _; refine w1_set 1 t_law_minus_other ?_) | (guard_target = W1 _ M_law_minus _ (.Assign [(.Name "other" _)] (.ListComp _ _ _ _) _) _ _; refine w1_lc 1 l_law_minus_other ?_) | ((first | (guard_target = W1 _ _ _ (.Assign [.Name _ _] (.Call _ _ _ _) _) _ _) | (guard_target = W1 _ _ _ (.Assign [.Name _ _] (.BinOp _ _ _ _) _) _ _) | (guard_target = W1 _ _ _ (.Assign [.Name _ _] (.Name _ _) _) _ _) | (guard_target = W1 _ _ _ (.Assign [.Name _ _] (.Subscript _ _ _) _) _ _) | (guard_target = W1 _ _ _ (.Assign [.Name _ _] (.Constant _ _ _) _) _ _) | (guard_target = W1 _ _ _ (.Assign [.Name _ _] (.Compare _ _ _ _) _) _ _) | (guard_target = W1 _ _ _ (.Assign [.Name _ _] (.BoolOp _ _ _) _) _ _) | (guard_target = W1 _ _ _ (.Assign [.Name _ _] (.IfExp _ _ _ _) _) _ _) | (guard_target = W1 _ _ _ (.Assign [.Name _ _] (.Tuple _ _ _) _) _ _) | (guard_target = W1 _ _ _ (.Assign [.Name _ _] (.UnaryOp _ _ _) _) _ _)); first | (guard_target = W1 _ M_law_minus _ (.Assign [(.Name "one" _)] _ _) _ _; refine w1_set 0 t_law_minus_one ?_) | (guard_target = W1 _ M_law_minus _ (.Assign [(.Name "other" _)] _ _) _ _; refine w1_set 1 t_law_minus_other ?_)) | (guard_target = W1 _ _ _ (.AugAssign _ _ _ _) _ _; first | (guard_target = W1 _ M_law_minus _ (.AugAssign (.Name "one" _) _ _ _) _ _; first | refine w1_addI 0 t_law_minus_one rfl ?_ | refine w1_subI 0 t_law_minus_one rfl ?_) | (guard_target = W1 _ M_law_minus _ (.AugAssign (.Name "other" _) _ _ _) _ _; first | refine w1_addI 1 t_law_minus_other rfl ?_ | refine w1_subI 1 t_law_minus_other rfl ?_)) | (guard_target = W1 _ _ _ (.Assign [.Tuple _ _ _] _ _) _ _; refine w1_asg ?_))
  | (guard_target = WI _ _ _ _ _ _ _; first | refine wi_seq ?_)
  | (guard_target = WG _ _ _ _ _ _ _; first | (guard_target = WG _ M_law_minus _ (.Name "one" _) _ _ _; refine wg_name 0 t_law_minus_one ?_) | (guard_target = WG _ M_law_minus _ (.Name "other" _) _ _ _; refine wg_name 1 t_law_minus_other ?_) | refine wg_tup rfl ?_)
  | (guard_target = WH _ _ _ _ _ _ _; first | refine wh_cons ?_ | refine wh_nil ?_)
  | (guard_target = WV _ _ _ _ _ _ _ _; first | refine wv_tup rfl ?_)
  | (guard_target = WVs _ _ _ _ _ _ _ _; first | refine wvs_cons ?_ | refine wvs_nil ?_)
  | walk_at "dw_d"
  | fail)
set_option hygiene false in
local macro_rules | `(tactic| walk_at "st_law_times") => `(tactic| first
  | (guard_target = WB _ _ _ _ _ _; first | (guard_target = WB _ _ _ (.Name _ _) _ _; first | (guard_target = WB _ M_law_times _ (.Name "one" _) _ _; first | refine wb_mu 0 r_law_times_one rfl ?_ | refine wb_of ?_) | (guard_target = WB _ M_law_times _ (.Name "other" _) _ _; first | refine wb_mu 1 r_law_times_other rfl ?_ | refine wb_of ?_) | refine wb_of ?_) | refine wb_of ?_)
  | (guard_target = WE _ _ _ _ _ _; first
     | (guard_target = WE _ _ _ (.Name _ _) _ _; first | (guard_target = WE _ M_law_times _ (.Name "one" _) _ _; refine we_var 0 r_law_times_one rfl ?_) | (guard_target = WE _ M_law_times _ (.Name "other" _) _ _; refine we_var 1 r_law_times_other rfl ?_))
     | (guard_target = WE _ _ _ (.Constant _ _ _) _ _; first | refine we_int ?_ | refine we_str ?_ | refine we_bool ?_ | refine we_none ?_)
     | (guard_target = WE _ _ _ (.Subscript _ _ _) _ _; first | refine we_ix ?_ | refine we_slice ?_)
     | (guard_target = WE _ _ _ (.Call (.Name _ _) _ _ _) _ _; first | (guard_target = WE _ M_law_times _ (.Call (.Name "_law_fr" _) _ _ _) _ _; first | refine we_call f_law_fr g_law_times__law_fr (by omega) ?_ | refine we_call0 f_law_fr g_law_times__law_fr (by omega) ?_))
     | (guard_target = WE _ _ _ (.BinOp _ _ _ _) _ _; first | refine we_add ?_ | refine we_sub ?_ | refine we_mul ?_ | refine we_mod ?_ | refine we_fdiv ?_ | refine we_pow ?_)
     | (guard_target = WE _ _ _ (.Compare _ _ _ _) _ _; first | refine we_eq ?_ | refine we_ne ?_ | refine we_lt ?_ | refine we_le ?_ | refine we_gt ?_ | refine we_ge ?_ | refine we_in ?_ | refine we_notin ?_)
     | walk_at "dw_we")
  | (guard_target = WT _ _ _ _ _ _; walk_at "dw_wt")
  | (guard_target = WL _ _ _ _ _ _; first | refine wl_cons ?_ | refine wl_nil ?_)
  | (guard_target = WW _ _ _ _ _ _; first | refine ww_and ?_ | refine ww_or ?_ | refine ww_and1 ?_ | refine ww_or1 ?_)
  | (guard_target = WO _ _ _ _ _ _; first | refine wo_none ?_ | refine wo_some ?_)
  | (guard_target = WF _ _ _ _ _ _; first | refine wf_list ?_ | refine wf_lc ?_)
  | (guard_target = WS _ _ _ _ _ _; first | refine ws_cons ?_ | refine ws_nil ?_)
  | (guard_target = W1 _ _ _ _ _ _; first | walk_at "dw_1" | (guard_target = W1 _ M_law_times _ (.Assign [(.Name "one" _)] (.List _ _) _) _ _; refine w1_set 0 t_law_times_one ?_) | (guard_target = W1 _ M_law_times _ (.Assign [(.Name "one" _)] (.ListComp _ _ _ _) _) _ _; refine w1_lc 0 l_law_times_one ?_) | (guard_target = W1 _ M_law_times _ (.Assign [(.Name "other" _)] (.List _ _) _) _ _; refine w1_set 1 t_law_times_other ?_) | (guard_target = W1 _ M_law_times _ (.Assign [(.Name "other" _)] (.ListComp _ _ _ _) _) _ _; refine w1_lc 1 l_law_times_other ?_) | ((first | (guard_target = W1 _ _ _ (.Assign [.Name _ _] (.Call _ _ _ _) _) _ _) | (guard_target = W1 _ _ _ (.Assign [.Name _ _] (.BinOp _ _ _ _) _) _ _) | (guard_target = W1 _ _ _ (.Assign [.Name _ _] (.Name _ _) _) _ _) | (guard_target = W1 _ _ _ (.Assign [.Name _ _] (.Subscript _ _ _) _) _ _) | (guard_target = W1 _ _ _ (.Assign [.Name _ _] (.Constant _ _ _) _) _ _) | (guard_target = W1 _ _ _ (.Assign [.Name _ _] (.Compare _ _ _ _) _) _ _) | (guard_target = W1 _ _ _ (.Assign [.Name _ _] (.BoolOp _ _ _) _) _ _) | (guard_target = W1 _ _ _ (.Assign [.Name _ _] (.IfExp _ _ _ _) _) _ _) | (guard_target = W1 _ _ _ (.Assign [.Name _ _] (.Tuple _ _ _) _) _ _) | (guard_target = W1 _ _ _ (.Assign [.Name _ _] (.UnaryOp _ _ _) _) _ _)); first | (guard_target = W1 _ M_law_times _ (.Assign [(.Name "one" _)] _ _) _ _; refine w1_set 0 t_law_times_one ?_) | (guard_target = W1 _ M_law_times _ (.Assign [(.Name "other" _)] _ _) _ _; refine w1_set 1 t_law_times_other ?_)) | (guard_target = W1 _ _ _ (.AugAssign _ _ _ _) _ _; first | (guard_target = W1 _ M_law_times _ (.AugAssign (.Name "one" _) _ _ _) _ _; first | refine w1_addI 0 t_law_times_one rfl ?_ | refine w1_subI 0 t_law_times_one rfl ?_) | (guard_target = W1 _ M_law_times _ (.AugAssign (.Name "other" _) _ _ _) _ _; first | refine w1_addI 1 t_law_times_other rfl ?_ | refine w1_subI 1 t_law_times_other rfl ?_)) | (guard_target = W1 _ _ _ (.Assign [.Tuple _ _ _] _ _) _ _; refine w1_asg ?_))
  | (guard_target = WI _ _ _ _ _ _ _; first | refine wi_seq ?_)
  | (guard_target = WG _ _ _ _ _ _ _; first | (guard_target = WG _ M_law_times _ (.Name "one" _) _ _ _; refine wg_name 0 t_law_times_one ?_) | (guard_target = WG _ M_law_times _ (.Name "other" _) _ _ _; refine wg_name 1 t_law_times_other ?_) | refine wg_tup rfl ?_)
  | (guard_target = WH _ _ _ _ _ _ _; first | refine wh_cons ?_ | refine wh_nil ?_)
  | (guard_target = WV _ _ _ _ _ _ _ _; first | refine wv_tup rfl ?_)
  | (guard_target = WVs _ _ _ _ _ _ _ _; first | refine wvs_cons ?_ | refine wvs_nil ?_)
  | walk_at "dw_d"
  | fail)
set_option hygiene false in
local macro_rules | `(tactic| walk_at "st_law_over") => `(tactic| first
  | (guard_target = WB _ _ _ _ _ _; first | (guard_target = WB _ _ _ (.Name _ _) _ _; first | (guard_target = WB _ M_law_over _ (.Name "one" _) _ _; first | refine wb_mu 0 r_law_over_one rfl ?_ | refine wb_of ?_) | (guard_target = WB _ M_law_over _ (.Name "other" _) _ _; first | refine wb_mu 1 r_law_over_other rfl ?_ | refine wb_of ?_) | refine wb_of ?_) | refine wb_of ?_)
  | (guard_target = WE _ _ _ _ _ _; first
     | (guard_target = WE _ _ _ (.Name _ _) _ _; first | (guard_target = WE _ M_law_over _ (.Name "one" _) _ _; refine we_var 0 r_law_over_one rfl ?_) | (guard_target = WE _ M_law_over _ (.Name "other" _) _ _; refine we_var 1 r_law_over_other rfl ?_))
     | (guard_target = WE _ _ _ (.Constant _ _ _) _ _; first | refine we_int ?_ | refine we_str ?_ | refine we_bool ?_ | refine we_none ?_)
     | (guard_target = WE _ _ _ (.Subscript _ _ _) _ _; first | refine we_ix ?_ | refine we_slice ?_)
     | (guard_target = WE _ _ _ (.Call (.Name _ _) _ _ _) _ _; first | (guard_target = WE _ M_law_over _ (.Call (.Name "_law_fr" _) _ _ _) _ _; first | refine we_call f_law_fr g_law_over__law_fr (by omega) ?_ | refine we_call0 f_law_fr g_law_over__law_fr (by omega) ?_))
     | (guard_target = WE _ _ _ (.BinOp _ _ _ _) _ _; first | refine we_add ?_ | refine we_sub ?_ | refine we_mul ?_ | refine we_mod ?_ | refine we_fdiv ?_ | refine we_pow ?_)
     | (guard_target = WE _ _ _ (.Compare _ _ _ _) _ _; first | refine we_eq ?_ | refine we_ne ?_ | refine we_lt ?_ | refine we_le ?_ | refine we_gt ?_ | refine we_ge ?_ | refine we_in ?_ | refine we_notin ?_)
     | walk_at "dw_we")
  | (guard_target = WT _ _ _ _ _ _; walk_at "dw_wt")
  | (guard_target = WL _ _ _ _ _ _; first | refine wl_cons ?_ | refine wl_nil ?_)
  | (guard_target = WW _ _ _ _ _ _; first | refine ww_and ?_ | refine ww_or ?_ | refine ww_and1 ?_ | refine ww_or1 ?_)
  | (guard_target = WO _ _ _ _ _ _; first | refine wo_none ?_ | refine wo_some ?_)
  | (guard_target = WF _ _ _ _ _ _; first | refine wf_list ?_ | refine wf_lc ?_)
  | (guard_target = WS _ _ _ _ _ _; first | refine ws_cons ?_ | refine ws_nil ?_)
  | (guard_target = W1 _ _ _ _ _ _; first | walk_at "dw_1" | (guard_target = W1 _ M_law_over _ (.Assign [(.Name "one" _)] (.List _ _) _) _ _; refine w1_set 0 t_law_over_one ?_) | (guard_target = W1 _ M_law_over _ (.Assign [(.Name "one" _)] (.ListComp _ _ _ _) _) _ _; refine w1_lc 0 l_law_over_one ?_) | (guard_target = W1 _ M_law_over _ (.Assign [(.Name "other" _)] (.List _ _) _) _ _; refine w1_set 1 t_law_over_other ?_) | (guard_target = W1 _ M_law_over _ (.Assign [(.Name "other" _)] (.ListComp _ _ _ _) _) _ _; refine w1_lc 1 l_law_over_other ?_) | ((first | (guard_target = W1 _ _ _ (.Assign [.Name _ _] (.Call _ _ _ _) _) _ _) | (guard_target = W1 _ _ _ (.Assign [.Name _ _] (.BinOp _ _ _ _) _) _ _) | (guard_target = W1 _ _ _ (.Assign [.Name _ _] (.Name _ _) _) _ _) | (guard_target = W1 _ _ _ (.Assign [.Name _ _] (.Subscript _ _ _) _) _ _) | (guard_target = W1 _ _ _ (.Assign [.Name _ _] (.Constant _ _ _) _) _ _) | (guard_target = W1 _ _ _ (.Assign [.Name _ _] (.Compare _ _ _ _) _) _ _) | (guard_target = W1 _ _ _ (.Assign [.Name _ _] (.BoolOp _ _ _) _) _ _) | (guard_target = W1 _ _ _ (.Assign [.Name _ _] (.IfExp _ _ _ _) _) _ _) | (guard_target = W1 _ _ _ (.Assign [.Name _ _] (.Tuple _ _ _) _) _ _) | (guard_target = W1 _ _ _ (.Assign [.Name _ _] (.UnaryOp _ _ _) _) _ _)); first | (guard_target = W1 _ M_law_over _ (.Assign [(.Name "one" _)] _ _) _ _; refine w1_set 0 t_law_over_one ?_) | (guard_target = W1 _ M_law_over _ (.Assign [(.Name "other" _)] _ _) _ _; refine w1_set 1 t_law_over_other ?_)) | (guard_target = W1 _ _ _ (.AugAssign _ _ _ _) _ _; first | (guard_target = W1 _ M_law_over _ (.AugAssign (.Name "one" _) _ _ _) _ _; first | refine w1_addI 0 t_law_over_one rfl ?_ | refine w1_subI 0 t_law_over_one rfl ?_) | (guard_target = W1 _ M_law_over _ (.AugAssign (.Name "other" _) _ _ _) _ _; first | refine w1_addI 1 t_law_over_other rfl ?_ | refine w1_subI 1 t_law_over_other rfl ?_)) | (guard_target = W1 _ _ _ (.Assign [.Tuple _ _ _] _ _) _ _; refine w1_asg ?_))
  | (guard_target = WI _ _ _ _ _ _ _; first | refine wi_seq ?_)
  | (guard_target = WG _ _ _ _ _ _ _; first | (guard_target = WG _ M_law_over _ (.Name "one" _) _ _ _; refine wg_name 0 t_law_over_one ?_) | (guard_target = WG _ M_law_over _ (.Name "other" _) _ _ _; refine wg_name 1 t_law_over_other ?_) | refine wg_tup rfl ?_)
  | (guard_target = WH _ _ _ _ _ _ _; first | refine wh_cons ?_ | refine wh_nil ?_)
  | (guard_target = WV _ _ _ _ _ _ _ _; first | refine wv_tup rfl ?_)
  | (guard_target = WVs _ _ _ _ _ _ _ _; first | refine wvs_cons ?_ | refine wvs_nil ?_)
  | walk_at "dw_d"
  | fail)
set_option hygiene false in
local macro_rules | `(tactic| walk_at "st_law_below") => `(tactic| first
  | (guard_target = WB _ _ _ _ _ _; first | (guard_target = WB _ _ _ (.Name _ _) _ _; first | (guard_target = WB _ M_law_below _ (.Name "one" _) _ _; first | refine wb_mu 0 r_law_below_one rfl ?_ | refine wb_of ?_) | (guard_target = WB _ M_law_below _ (.Name "other" _) _ _; first | refine wb_mu 1 r_law_below_other rfl ?_ | refine wb_of ?_) | refine wb_of ?_) | refine wb_of ?_)
  | (guard_target = WE _ _ _ _ _ _; first
     | (guard_target = WE _ _ _ (.Name _ _) _ _; first | (guard_target = WE _ M_law_below _ (.Name "one" _) _ _; refine we_var 0 r_law_below_one rfl ?_) | (guard_target = WE _ M_law_below _ (.Name "other" _) _ _; refine we_var 1 r_law_below_other rfl ?_))
     | (guard_target = WE _ _ _ (.Constant _ _ _) _ _; first | refine we_int ?_ | refine we_str ?_ | refine we_bool ?_ | refine we_none ?_)
     | (guard_target = WE _ _ _ (.Subscript _ _ _) _ _; first | refine we_ix ?_ | refine we_slice ?_)
     | (guard_target = WE _ _ _ (.Call (.Name _ _) _ _ _) _ _; fail)
     | (guard_target = WE _ _ _ (.BinOp _ _ _ _) _ _; first | refine we_add ?_ | refine we_sub ?_ | refine we_mul ?_ | refine we_mod ?_ | refine we_fdiv ?_ | refine we_pow ?_)
     | (guard_target = WE _ _ _ (.Compare _ _ _ _) _ _; first | refine we_eq ?_ | refine we_ne ?_ | refine we_lt ?_ | refine we_le ?_ | refine we_gt ?_ | refine we_ge ?_ | refine we_in ?_ | refine we_notin ?_)
     | walk_at "dw_we")
  | (guard_target = WT _ _ _ _ _ _; walk_at "dw_wt")
  | (guard_target = WL _ _ _ _ _ _; first | refine wl_cons ?_ | refine wl_nil ?_)
  | (guard_target = WW _ _ _ _ _ _; first | refine ww_and ?_ | refine ww_or ?_ | refine ww_and1 ?_ | refine ww_or1 ?_)
  | (guard_target = WO _ _ _ _ _ _; first | refine wo_none ?_ | refine wo_some ?_)
  | (guard_target = WF _ _ _ _ _ _; first | refine wf_list ?_ | refine wf_lc ?_)
  | (guard_target = WS _ _ _ _ _ _; first | refine ws_cons ?_ | refine ws_nil ?_)
  | (guard_target = W1 _ _ _ _ _ _; first | walk_at "dw_1" | (guard_target = W1 _ M_law_below _ (.Assign [(.Name "one" _)] (.List _ _) _) _ _; refine w1_set 0 t_law_below_one ?_) | (guard_target = W1 _ M_law_below _ (.Assign [(.Name "one" _)] (.ListComp _ _ _ _) _) _ _; refine w1_lc 0 l_law_below_one ?_) | (guard_target = W1 _ M_law_below _ (.Assign [(.Name "other" _)] (.List _ _) _) _ _; refine w1_set 1 t_law_below_other ?_) | (guard_target = W1 _ M_law_below _ (.Assign [(.Name "other" _)] (.ListComp _ _ _ _) _) _ _; refine w1_lc 1 l_law_below_other ?_) | ((first | (guard_target = W1 _ _ _ (.Assign [.Name _ _] (.Call _ _ _ _) _) _ _) | (guard_target = W1 _ _ _ (.Assign [.Name _ _] (.BinOp _ _ _ _) _) _ _) | (guard_target = W1 _ _ _ (.Assign [.Name _ _] (.Name _ _) _) _ _) | (guard_target = W1 _ _ _ (.Assign [.Name _ _] (.Subscript _ _ _) _) _ _) | (guard_target = W1 _ _ _ (.Assign [.Name _ _] (.Constant _ _ _) _) _ _) | (guard_target = W1 _ _ _ (.Assign [.Name _ _] (.Compare _ _ _ _) _) _ _) | (guard_target = W1 _ _ _ (.Assign [.Name _ _] (.BoolOp _ _ _) _) _ _) | (guard_target = W1 _ _ _ (.Assign [.Name _ _] (.IfExp _ _ _ _) _) _ _) | (guard_target = W1 _ _ _ (.Assign [.Name _ _] (.Tuple _ _ _) _) _ _) | (guard_target = W1 _ _ _ (.Assign [.Name _ _] (.UnaryOp _ _ _) _) _ _)); first | (guard_target = W1 _ M_law_below _ (.Assign [(.Name "one" _)] _ _) _ _; refine w1_set 0 t_law_below_one ?_) | (guard_target = W1 _ M_law_below _ (.Assign [(.Name "other" _)] _ _) _ _; refine w1_set 1 t_law_below_other ?_)) | (guard_target = W1 _ _ _ (.AugAssign _ _ _ _) _ _; first | (guard_target = W1 _ M_law_below _ (.AugAssign (.Name "one" _) _ _ _) _ _; first | refine w1_addI 0 t_law_below_one rfl ?_ | refine w1_subI 0 t_law_below_one rfl ?_) | (guard_target = W1 _ M_law_below _ (.AugAssign (.Name "other" _) _ _ _) _ _; first | refine w1_addI 1 t_law_below_other rfl ?_ | refine w1_subI 1 t_law_below_other rfl ?_)) | (guard_target = W1 _ _ _ (.Assign [.Tuple _ _ _] _ _) _ _; refine w1_asg ?_))
  | (guard_target = WI _ _ _ _ _ _ _; first | refine wi_seq ?_)
  | (guard_target = WG _ _ _ _ _ _ _; first | (guard_target = WG _ M_law_below _ (.Name "one" _) _ _ _; refine wg_name 0 t_law_below_one ?_) | (guard_target = WG _ M_law_below _ (.Name "other" _) _ _ _; refine wg_name 1 t_law_below_other ?_) | refine wg_tup rfl ?_)
  | (guard_target = WH _ _ _ _ _ _ _; first | refine wh_cons ?_ | refine wh_nil ?_)
  | (guard_target = WV _ _ _ _ _ _ _ _; first | refine wv_tup rfl ?_)
  | (guard_target = WVs _ _ _ _ _ _ _ _; first | refine wvs_cons ?_ | refine wvs_nil ?_)
  | walk_at "dw_d"
  | fail)
set_option hygiene false in
local macro_rules | `(tactic| walk_at "st_law_vector") => `(tactic| first
  | (guard_target = WB _ _ _ _ _ _; first | (guard_target = WB _ _ _ (.Name _ _) _ _; first | (guard_target = WB _ M_law_vector _ (.Name "numbers" _) _ _; first | refine wb_mu 0 r_law_vector_numbers rfl ?_ | refine wb_of ?_) | (guard_target = WB _ (blkNm M_law_vector _ kd_law_vector_0 gl_law_vector_0) _ (.Name "one" _) _ _; first | refine wb_mu 1 (r_law_vector_0_one _) rfl ?_ | refine wb_of ?_) | refine wb_of ?_) | refine wb_of ?_)
  | (guard_target = WE _ _ _ _ _ _; first
     | (guard_target = WE _ _ _ (.Name _ _) _ _; first | (guard_target = WE _ M_law_vector _ (.Name "numbers" _) _ _; refine we_var 0 r_law_vector_numbers rfl ?_) | (guard_target = WE _ (blkNm M_law_vector _ kd_law_vector_0 gl_law_vector_0) _ (.Name "one" _) _ _; refine we_var 1 (r_law_vector_0_one _) rfl ?_))
     | (guard_target = WE _ _ _ (.Constant _ _ _) _ _; first | refine we_int ?_ | refine we_str ?_ | refine we_bool ?_ | refine we_none ?_)
     | (guard_target = WE _ _ _ (.Subscript _ _ _) _ _; first | refine we_ix ?_ | refine we_slice ?_)
     | (guard_target = WE _ _ _ (.Call (.Name _ _) _ _ _) _ _; first | (guard_target = WE _ M_law_vector _ (.Call (.Name "tuple" _) _ _ _) _ _; refine we_tup B.tuple g_law_vector_tuple ?_))
     | (guard_target = WE _ _ _ (.BinOp _ _ _ _) _ _; first | refine we_add ?_ | refine we_sub ?_ | refine we_mul ?_ | refine we_mod ?_ | refine we_fdiv ?_ | refine we_pow ?_)
     | (guard_target = WE _ _ _ (.Compare _ _ _ _) _ _; first | refine we_eq ?_ | refine we_ne ?_ | refine we_lt ?_ | refine we_le ?_ | refine we_gt ?_ | refine we_ge ?_ | refine we_in ?_ | refine we_notin ?_)
     | walk_at "dw_we")
  | (guard_target = WT _ _ _ _ _ _; walk_at "dw_wt")
  | (guard_target = WL _ _ _ _ _ _; first | refine wl_cons ?_ | refine wl_nil ?_)
  | (guard_target = WW _ _ _ _ _ _; first | refine ww_and ?_ | refine ww_or ?_ | refine ww_and1 ?_ | refine ww_or1 ?_)
  | (guard_target = WO _ _ _ _ _ _; first | refine wo_none ?_ | refine wo_some ?_)
  | (guard_target = WF _ _ _ _ _ _; first | refine wf_list ?_ | refine wf_lc ?_)
  | (guard_target = WS _ _ _ _ _ _; first | refine ws_cons ?_ | refine ws_nil ?_)
  | (guard_target = W1 _ _ _ _ _ _; first | walk_at "dw_1" | (guard_target = W1 _ M_law_vector _ (.Assign [(.Name "numbers" _)] (.List _ _) _) _ _; refine w1_set 0 t_law_vector_numbers ?_) | (guard_target = W1 _ M_law_vector _ (.Assign [(.Name "numbers" _)] (.ListComp _ _ _ _) _) _ _; refine w1_lc 0 l_law_vector_numbers ?_) | ((first | (guard_target = W1 _ _ _ (.Assign [.Name _ _] (.Call _ _ _ _) _) _ _) | (guard_target = W1 _ _ _ (.Assign [.Name _ _] (.BinOp _ _ _ _) _) _ _) | (guard_target = W1 _ _ _ (.Assign [.Name _ _] (.Name _ _) _) _ _) | (guard_target = W1 _ _ _ (.Assign [.Name _ _] (.Subscript _ _ _) _) _ _) | (guard_target = W1 _ _ _ (.Assign [.Name _ _] (.Constant _ _ _) _) _ _) | (guard_target = W1 _ _ _ (.Assign [.Name _ _] (.Compare _ _ _ _) _) _ _) | (guard_target = W1 _ _ _ (.Assign [.Name _ _] (.BoolOp _ _ _) _) _ _) | (guard_target = W1 _ _ _ (.Assign [.Name _ _] (.IfExp _ _ _ _) _) _ _) | (guard_target = W1 _ _ _ (.Assign [.Name _ _] (.Tuple _ _ _) _) _ _) | (guard_target = W1 _ _ _ (.Assign [.Name _ _] (.UnaryOp _ _ _) _) _ _)); first | (guard_target = W1 _ M_law_vector _ (.Assign [(.Name "numbers" _)] _ _) _ _; refine w1_set 0 t_law_vector_numbers ?_)) | (guard_target = W1 _ _ _ (.AugAssign _ _ _ _) _ _; first | (guard_target = W1 _ M_law_vector _ (.AugAssign (.Name "numbers" _) _ _ _) _ _; first | refine w1_addI 0 t_law_vector_numbers rfl ?_ | refine w1_subI 0 t_law_vector_numbers rfl ?_)) | (guard_target = W1 _ _ _ (.Assign [.Tuple _ _ _] _ _) _ _; refine w1_asg ?_))
  | (guard_target = WI _ _ _ _ _ _ _; first | refine wi_seq ?_)
  | (guard_target = WG _ _ _ _ _ _ _; first | (guard_target = WG _ M_law_vector _ (.Name "numbers" _) _ _ _; refine wg_name 0 t_law_vector_numbers ?_) | refine wg_tup rfl ?_)
  | (guard_target = WH _ _ _ _ _ _ _; first | refine wh_cons ?_ | refine wh_nil ?_)
  | (guard_target = WV _ _ _ _ _ _ _ _; first | (guard_target = WV _ (blkNm M_law_vector _ kd_law_vector_0 gl_law_vector_0) _ _ (.Name "one" _) _ _ _; refine wv_name 1 (t_law_vector_0_one _) (by decide) ?_) | refine wv_tup rfl ?_)
  | (guard_target = WVs _ _ _ _ _ _ _ _; first | refine wvs_cons ?_ | refine wvs_nil ?_)
  | walk_at "dw_d"
  | fail)
set_option hygiene false in
local macro_rules | `(tactic| walk_at "st_law_added") => `(tactic| first
  | (guard_target = WB _ _ _ _ _ _; first | (guard_target = WB _ _ _ (.Name _ _) _ _; first | (guard_target = WB _ M_law_added _ (.Name "one" _) _ _; first | refine wb_mu 0 r_law_added_one rfl ?_ | refine wb_of ?_) | (guard_target = WB _ M_law_added _ (.Name "other" _) _ _; first | refine wb_mu 1 r_law_added_other rfl ?_ | refine wb_of ?_) | (guard_target = WB _ (blkNm M_law_added _ kd_law_added_0 gl_law_added_0) _ (.Name "p" _) _ _; first | refine wb_mu 2 (r_law_added_0_p _) rfl ?_ | refine wb_of ?_) | (guard_target = WB _ (blkNm M_law_added _ kd_law_added_0 gl_law_added_0) _ (.Name "q" _) _ _; first | refine wb_mu 3 (r_law_added_0_q _) rfl ?_ | refine wb_of ?_) | refine wb_of ?_) | refine wb_of ?_)
  | (guard_target = WE _ _ _ _ _ _; first
     | (guard_target = WE _ _ _ (.Name _ _) _ _; first | (guard_target = WE _ M_law_added _ (.Name "one" _) _ _; refine we_var 0 r_law_added_one rfl ?_) | (guard_target = WE _ M_law_added _ (.Name "other" _) _ _; refine we_var 1 r_law_added_other rfl ?_) | (guard_target = WE _ (blkNm M_law_added _ kd_law_added_0 gl_law_added_0) _ (.Name "p" _) _ _; refine we_var 2 (r_law_added_0_p _) rfl ?_) | (guard_target = WE _ (blkNm M_law_added _ kd_law_added_0 gl_law_added_0) _ (.Name "q" _) _ _; refine we_var 3 (r_law_added_0_q _) rfl ?_))
     | (guard_target = WE _ _ _ (.Constant _ _ _) _ _; first | refine we_int ?_ | refine we_str ?_ | refine we_bool ?_ | refine we_none ?_)
     | (guard_target = WE _ _ _ (.Subscript _ _ _) _ _; first | refine we_ix ?_ | refine we_slice ?_)
     | (guard_target = WE _ _ _ (.Call (.Name _ _) _ _ _) _ _; first | (guard_target = WE _ M_law_added _ (.Call (.Name "tuple" _) _ _ _) _ _; refine we_tup B.tuple g_law_added_tuple ?_) | (guard_target = WE _ (blkNm M_law_added _ kd_law_added_0 gl_law_added_0) _ (.Call (.Name "_law_plus" _) _ _ _) _ _; first | refine we_call f_law_plus (g_law_added_0__law_plus _) (by omega) ?_ | refine we_call0 f_law_plus (g_law_added_0__law_plus _) (by omega) ?_))
     | (guard_target = WE _ _ _ (.BinOp _ _ _ _) _ _; first | refine we_add ?_ | refine we_sub ?_ | refine we_mul ?_ | refine we_mod ?_ | refine we_fdiv ?_ | refine we_pow ?_)
     | (guard_target = WE _ _ _ (.Compare _ _ _ _) _ _; first | refine we_eq ?_ | refine we_ne ?_ | refine we_lt ?_ | refine we_le ?_ | refine we_gt ?_ | refine we_ge ?_ | refine we_in ?_ | refine we_notin ?_)
     | walk_at "dw_we")
  | (guard_target = WT _ _ _ _ _ _; walk_at "dw_wt")
  | (guard_target = WL _ _ _ _ _ _; first | refine wl_cons ?_ | refine wl_nil ?_)
  | (guard_target = WW _ _ _ _ _ _; first | refine ww_and ?_ | refine ww_or ?_ | refine ww_and1 ?_ | refine ww_or1 ?_)
  | (guard_target = WO _ _ _ _ _ _; first | refine wo_none ?_ | refine wo_some ?_)
  | (guard_target = WF _ _ _ _ _ _; first | refine wf_list ?_ | refine wf_lc ?_)
  | (guard_target = WS _ _ _ _ _ _; first | refine ws_cons ?_ | refine ws_nil ?_)
  | (guard_target = W1 _ _ _ _ _ _; first | walk_at "dw_1" | (guard_target = W1 _ M_law_added _ (.Assign [(.Name "one" _)] (.List _ _) _) _ _; refine w1_set 0 t_law_added_one ?_) | (guard_target = W1 _ M_law_added _ (.Assign [(.Name "one" _)] (.ListComp _ _ _ _) _) _ _; refine w1_lc 0 l_law_added_one ?_) | (guard_target = W1 _ M_law_added _ (.Assign [(.Name "other" _)] (.List _ _) _) _ _; refine w1_set 1 t_law_added_other ?_) | (guard_target = W1 _ M_law_added _ (.Assign [(.Name "other" _)] (.ListComp _ _ _ _) _) _ _; refine w1_lc 1 l_law_added_other ?_) | ((first | (guard_target = W1 _ _ _ (.Assign [.Name _ _] (.Call _ _ _ _) _) _ _) | (guard_target = W1 _ _ _ (.Assign [.Name _ _] (.BinOp _ _ _ _) _) _ _) | (guard_target = W1 _ _ _ (.Assign [.Name _ _] (.Name _ _) _) _ _) | (guard_target = W1 _ _ _ (.Assign [.Name _ _] (.Subscript _ _ _) _) _ _) | (guard_target = W1 _ _ _ (.Assign [.Name _ _] (.Constant _ _ _) _) _ _) | (guard_target = W1 _ _ _ (.Assign [.Name _ _] (.Compare _ _ _ _) _) _ _) | (guard_target = W1 _ _ _ (.Assign [.Name _ _] (.BoolOp _ _ _) _) _ _) | (guard_target = W1 _ _ _ (.Assign [.Name _ _] (.IfExp _ _ _ _) _) _ _) | (guard_target = W1 _ _ _ (.Assign [.Name _ _] (.Tuple _ _ _) _) _ _) | (guard_target = W1 _ _ _ (.Assign [.Name _ _] (.UnaryOp _ _ _) _) _ _)); first | (guard_target = W1 _ M_law_added _ (.Assign [(.Name "one" _)] _ _) _ _; refine w1_set 0 t_law_added_one ?_) | (guard_target = W1 _ M_law_added _ (.Assign [(.Name "other" _)] _ _) _ _; refine w1_set 1 t_law_added_other ?_)) | (guard_target = W1 _ _ _ (.AugAssign _ _ _ _) _ _; first | (guard_target = W1 _ M_law_added _ (.AugAssign (.Name "one" _) _ _ _) _ _; first | refine w1_addI 0 t_law_added_one rfl ?_ | refine w1_subI 0 t_law_added_one rfl ?_) | (guard_target = W1 _ M_law_added _ (.AugAssign (.Name "other" _) _ _ _) _ _; first | refine w1_addI 1 t_law_added_other rfl ?_ | refine w1_subI 1 t_law_added_other rfl ?_)) | (guard_target = W1 _ _ _ (.Assign [.Tuple _ _ _] _ _) _ _; refine w1_asg ?_))
  | (guard_target = WI _ _ _ _ _ _ _; first | refine wi_zip B.zip g_law_added_zip ?_ | refine wi_seq ?_)
  | (guard_target = WG _ _ _ _ _ _ _; first | (guard_target = WG _ M_law_added _ (.Name "one" _) _ _ _; refine wg_name 0 t_law_added_one ?_) | (guard_target = WG _ M_law_added _ (.Name "other" _) _ _ _; refine wg_name 1 t_law_added_other ?_) | refine wg_tup rfl ?_)
  | (guard_target = WH _ _ _ _ _ _ _; first | refine wh_cons ?_ | refine wh_nil ?_)
  | (guard_target = WV _ _ _ _ _ _ _ _; first | (guard_target = WV _ (blkNm M_law_added _ kd_law_added_0 gl_law_added_0) _ _ (.Name "p" _) _ _ _; refine wv_name 2 (t_law_added_0_p _) (by decide) ?_) | (guard_target = WV _ (blkNm M_law_added _ kd_law_added_0 gl_law_added_0) _ _ (.Name "q" _) _ _ _; refine wv_name 3 (t_law_added_0_q _) (by decide) ?_) | refine wv_tup rfl ?_)
  | (guard_target = WVs _ _ _ _ _ _ _ _; first | refine wvs_cons ?_ | refine wvs_nil ?_)
  | walk_at "dw_d"
  | fail)
set_option hygiene false in
local macro_rules | `(tactic| walk_at "st_law_less") => `(tactic| first
  | (guard_target = WB _ _ _ _ _ _; first | (guard_target = WB _ _ _ (.Name _ _) _ _; first | (guard_target = WB _ M_law_less _ (.Name "one" _) _ _; first | refine wb_mu 0 r_law_less_one rfl ?_ | refine wb_of ?_) | (guard_target = WB _ M_law_less _ (.Name "other" _) _ _; first | refine wb_mu 1 r_law_less_other rfl ?_ | refine wb_of ?_) | (guard_target = WB _ (blkNm M_law_less _ kd_law_less_0 gl_law_less_0) _ (.Name "p" _) _ _; first | refine wb_mu 2 (r_law_less_0_p _) rfl ?_ | refine wb_of ?_) | (guard_target = WB _ (blkNm M_law_less _ kd_law_less_0 gl_law_less_0) _ (.Name "q" _) _ _; first | refine wb_mu 3 (r_law_less_0_q _) rfl ?_ | refine wb_of ?_) | refine wb_of ?_) | refine wb_of ?_)
  | (guard_target = WE _ _ _ _ _ _; first
     | (guard_target = WE _ _ _ (.Name _ _) _ _; first | (guard_target = WE _ M_law_less _ (.Name "one" _) _ _; refine we_var 0 r_law_less_one rfl ?_) | (guard_target = WE _ M_law_less _ (.Name "other" _) _ _; refine we_var 1 r_law_less_other rfl ?_) | (guard_target = WE _ (blkNm M_law_less _ kd_law_less_0 gl_law_less_0) _ (.Name "p" _) _ _; refine we_var 2 (r_law_less_0_p _) rfl ?_) | (guard_target = WE _ (blkNm M_law_less _ kd_law_less_0 gl_law_less_0) _ (.Name "q" _) _ _; refine we_var 3 (r_law_less_0_q _) rfl ?_))
     | (guard_target = WE _ _ _ (.Constant _ _ _) _ _; first | refine we_int ?_ | refine we_str ?_ | refine we_bool ?_ | refine we_none ?_)
     | (guard_target = WE _ _ _ (.Subscript _ _ _) _ _; first | refine we_ix ?_ | refine we_slice ?_)
     | (guard_target = WE _ _ _ (.Call (.Name _ _) _ _ _) _ _; first | (guard_target = WE _ M_law_less _ (.Call (.Name "tuple" _) _ _ _) _ _; refine we_tup B.tuple g_law_less_tuple ?_) | (guard_target = WE _ (blkNm M_law_less _ kd_law_less_0 gl_law_less_0) _ (.Call (.Name "_law_minus" _) _ _ _) _ _; first | refine we_call f_law_minus (g_law_less_0__law_minus _) (by omega) ?_ | refine we_call0 f_law_minus (g_law_less_0__law_minus _) (by omega) ?_))
     | (guard_target = WE _ _ _ (.BinOp _ _ _ _) _ _; first | refine we_add ?_ | refine we_sub ?_ | refine we_mul ?_ | refine we_mod ?_ | refine we_fdiv ?_ | refine we_pow ?_)
     | (guard_target = WE _ _ _ (.Compare _ _ _ _) _ _; first | refine we_eq ?_ | refine we_ne ?_ | refine we_lt ?_ | refine we_le ?_ | refine we_gt ?_ | refine we_ge ?_ | refine we_in ?_ | refine we_notin ?_)
     | walk_at "dw_we")
  | (guard_target = WT _ _ _ _ _ _; walk_at "dw_wt")
  | (guard_target = WL _ _ _ _ _ _; first | refine wl_cons ?_ | refine wl_nil ?_)
  | (guard_target = WW _ _ _ _ _ _; first | refine ww_and ?_ | refine ww_or ?_ | refine ww_and1 ?_ | refine ww_or1 ?_)
  | (guard_target = WO _ _ _ _ _ _; first | refine wo_none ?_ | refine wo_some ?_)
  | (guard_target = WF _ _ _ _ _ _; first | refine wf_list ?_ | refine wf_lc ?_)
  | (guard_target = WS _ _ _ _ _ _; first | refine ws_cons ?_ | refine ws_nil ?_)
  | (guard_target = W1 _ _ _ _ _ _; first | walk_at "dw_1" | (guard_target = W1 _ M_law_less _ (.Assign [(.Name "one" _)] (.List _ _) _) _ _; refine w1_set 0 t_law_less_one ?_) | (guard_target = W1 _ M_law_less _ (.Assign [(.Name "one" _)] (.ListComp _ _ _ _) _) _ _; refine w1_lc 0 l_law_less_one ?_) | (guard_target = W1 _ M_law_less _ (.Assign [(.Name "other" _)] (.List _ _) _) _ _; refine w1_set 1 t_law_less_other ?_) | (guard_target = W1 _ M_law_less _ (.Assign [(.Name "other" _)] (.ListComp _ _ _ _) _) _ _; refine w1_lc 1 l_law_less_other ?_) | ((first | (guard_target = W1 _ _ _ (.Assign [.Name _ _] (.Call _ _ _ _) _) _ _) | (guard_target = W1 _ _ _ (.Assign [.Name _ _] (.BinOp _ _ _ _) _) _ _) | (guard_target = W1 _ _ _ (.Assign [.Name _ _] (.Name _ _) _) _ _) | (guard_target = W1 _ _ _ (.Assign [.Name _ _] (.Subscript _ _ _) _) _ _) | (guard_target = W1 _ _ _ (.Assign [.Name _ _] (.Constant _ _ _) _) _ _) | (guard_target = W1 _ _ _ (.Assign [.Name _ _] (.Compare _ _ _ _) _) _ _) | (guard_target = W1 _ _ _ (.Assign [.Name _ _] (.BoolOp _ _ _) _) _ _) | (guard_target = W1 _ _ _ (.Assign [.Name _ _] (.IfExp _ _ _ _) _) _ _) | (guard_target = W1 _ _ _ (.Assign [.Name _ _] (.Tuple _ _ _) _) _ _) | (guard_target = W1 _ _ _ (.Assign [.Name _ _] (.UnaryOp _ _ _) _) _ _)); first | (guard_target = W1 _ M_law_less _ (.Assign [(.Name "one" _)] _ _) _ _; refine w1_set 0 t_law_less_one ?_) | (guard_target = W1 _ M_law_less _ (.Assign [(.Name "other" _)] _ _) _ _; refine w1_set 1 t_law_less_other ?_)) | (guard_target = W1 _ _ _ (.AugAssign _ _ _ _) _ _; first | (guard_target = W1 _ M_law_less _ (.AugAssign (.Name "one" _) _ _ _) _ _; first | refine w1_addI 0 t_law_less_one rfl ?_ | refine w1_subI 0 t_law_less_one rfl ?_) | (guard_target = W1 _ M_law_less _ (.AugAssign (.Name "other" _) _ _ _) _ _; first | refine w1_addI 1 t_law_less_other rfl ?_ | refine w1_subI 1 t_law_less_other rfl ?_)) | (guard_target = W1 _ _ _ (.Assign [.Tuple _ _ _] _ _) _ _; refine w1_asg ?_))
  | (guard_target = WI _ _ _ _ _ _ _; first | refine wi_zip B.zip g_law_less_zip ?_ | refine wi_seq ?_)
  | (guard_target = WG _ _ _ _ _ _ _; first | (guard_target = WG _ M_law_less _ (.Name "one" _) _ _ _; refine wg_name 0 t_law_less_one ?_) | (guard_target = WG _ M_law_less _ (.Name "other" _) _ _ _; refine wg_name 1 t_law_less_other ?_) | refine wg_tup rfl ?_)
  | (guard_target = WH _ _ _ _ _ _ _; first | refine wh_cons ?_ | refine wh_nil ?_)
  | (guard_target = WV _ _ _ _ _ _ _ _; first | (guard_target = WV _ (blkNm M_law_less _ kd_law_less_0 gl_law_less_0) _ _ (.Name "p" _) _ _ _; refine wv_name 2 (t_law_less_0_p _) (by decide) ?_) | (guard_target = WV _ (blkNm M_law_less _ kd_law_less_0 gl_law_less_0) _ _ (.Name "q" _) _ _ _; refine wv_name 3 (t_law_less_0_q _) (by decide) ?_) | refine wv_tup rfl ?_)
  | (guard_target = WVs _ _ _ _ _ _ _ _; first | refine wvs_cons ?_ | refine wvs_nil ?_)
  | walk_at "dw_d"
  | fail)
set_option hygiene false in
local macro_rules | `(tactic| walk_at "st_law_multiple") => `(tactic| first
  | (guard_target = WB _ _ _ _ _ _; first | (guard_target = WB _ _ _ (.Name _ _) _ _; first | (guard_target = WB _ M_law_multiple _ (.Name "share" _) _ _; first | refine wb_mu 0 r_law_multiple_share rfl ?_ | refine wb_of ?_) | (guard_target = WB _ M_law_multiple _ (.Name "vector" _) _ _; first | refine wb_mu 1 r_law_multiple_vector rfl ?_ | refine wb_of ?_) | (guard_target = WB _ (blkNm M_law_multiple _ kd_law_multiple_0 gl_law_multiple_0) _ (.Name "share" _) _ _; first | refine wb_mu 0 (r_law_multiple_0_share _) rfl ?_ | refine wb_of ?_) | (guard_target = WB _ (blkNm M_law_multiple _ kd_law_multiple_0 gl_law_multiple_0) _ (.Name "p" _) _ _; first | refine wb_mu 2 (r_law_multiple_0_p _) rfl ?_ | refine wb_of ?_) | refine wb_of ?_) | refine wb_of ?_)
  | (guard_target = WE _ _ _ _ _ _; first
     | (guard_target = WE _ _ _ (.Name _ _) _ _; first | (guard_target = WE _ M_law_multiple _ (.Name "share" _) _ _; refine we_var 0 r_law_multiple_share rfl ?_) | (guard_target = WE _ M_law_multiple _ (.Name "vector" _) _ _; refine we_var 1 r_law_multiple_vector rfl ?_) | (guard_target = WE _ (blkNm M_law_multiple _ kd_law_multiple_0 gl_law_multiple_0) _ (.Name "share" _) _ _; refine we_var 0 (r_law_multiple_0_share _) rfl ?_) | (guard_target = WE _ (blkNm M_law_multiple _ kd_law_multiple_0 gl_law_multiple_0) _ (.Name "p" _) _ _; refine we_var 2 (r_law_multiple_0_p _) rfl ?_))
     | (guard_target = WE _ _ _ (.Constant _ _ _) _ _; first | refine we_int ?_ | refine we_str ?_ | refine we_bool ?_ | refine we_none ?_)
     | (guard_target = WE _ _ _ (.Subscript _ _ _) _ _; first | refine we_ix ?_ | refine we_slice ?_)
     | (guard_target = WE _ _ _ (.Call (.Name _ _) _ _ _) _ _; first | (guard_target = WE _ M_law_multiple _ (.Call (.Name "tuple" _) _ _ _) _ _; refine we_tup B.tuple g_law_multiple_tuple ?_) | (guard_target = WE _ (blkNm M_law_multiple _ kd_law_multiple_0 gl_law_multiple_0) _ (.Call (.Name "_law_times" _) _ _ _) _ _; first | refine we_call f_law_times (g_law_multiple_0__law_times _) (by omega) ?_ | refine we_call0 f_law_times (g_law_multiple_0__law_times _) (by omega) ?_))
     | (guard_target = WE _ _ _ (.BinOp _ _ _ _) _ _; first | refine we_add ?_ | refine we_sub ?_ | refine we_mul ?_ | refine we_mod ?_ | refine we_fdiv ?_ | refine we_pow ?_)
     | (guard_target = WE _ _ _ (.Compare _ _ _ _) _ _; first | refine we_eq ?_ | refine we_ne ?_ | refine we_lt ?_ | refine we_le ?_ | refine we_gt ?_ | refine we_ge ?_ | refine we_in ?_ | refine we_notin ?_)
     | walk_at "dw_we")
  | (guard_target = WT _ _ _ _ _ _; walk_at "dw_wt")
  | (guard_target = WL _ _ _ _ _ _; first | refine wl_cons ?_ | refine wl_nil ?_)
  | (guard_target = WW _ _ _ _ _ _; first | refine ww_and ?_ | refine ww_or ?_ | refine ww_and1 ?_ | refine ww_or1 ?_)
  | (guard_target = WO _ _ _ _ _ _; first | refine wo_none ?_ | refine wo_some ?_)
  | (guard_target = WF _ _ _ _ _ _; first | refine wf_list ?_ | refine wf_lc ?_)
  | (guard_target = WS _ _ _ _ _ _; first | refine ws_cons ?_ | refine ws_nil ?_)
  | (guard_target = W1 _ _ _ _ _ _; first | walk_at "dw_1" | (guard_target = W1 _ M_law_multiple _ (.Assign [(.Name "share" _)] (.List _ _) _) _ _; refine w1_set 0 t_law_multiple_share ?_) | (guard_target = W1 _ M_law_multiple _ (.Assign [(.Name "share" _)] (.ListComp _ _ _ _) _) _ _; refine w1_lcC 0 rfl rfl ?_) | (guard_target = W1 _ M_law_multiple _ (.Assign [(.Name "vector" _)] (.List _ _) _) _ _; refine w1_set 1 t_law_multiple_vector ?_) | (guard_target = W1 _ M_law_multiple _ (.Assign [(.Name "vector" _)] (.ListComp _ _ _ _) _) _ _; refine w1_lc 1 l_law_multiple_vector ?_) | ((first | (guard_target = W1 _ _ _ (.Assign [.Name _ _] (.Call _ _ _ _) _) _ _) | (guard_target = W1 _ _ _ (.Assign [.Name _ _] (.BinOp _ _ _ _) _) _ _) | (guard_target = W1 _ _ _ (.Assign [.Name _ _] (.Name _ _) _) _ _) | (guard_target = W1 _ _ _ (.Assign [.Name _ _] (.Subscript _ _ _) _) _ _) | (guard_target = W1 _ _ _ (.Assign [.Name _ _] (.Constant _ _ _) _) _ _) | (guard_target = W1 _ _ _ (.Assign [.Name _ _] (.Compare _ _ _ _) _) _ _) | (guard_target = W1 _ _ _ (.Assign [.Name _ _] (.BoolOp _ _ _) _) _ _) | (guard_target = W1 _ _ _ (.Assign [.Name _ _] (.IfExp _ _ _ _) _) _ _) | (guard_target = W1 _ _ _ (.Assign [.Name _ _] (.Tuple _ _ _) _) _ _) | (guard_target = W1 _ _ _ (.Assign [.Name _ _] (.UnaryOp _ _ _) _) _ _)); first | (guard_target = W1 _ M_law_multiple _ (.Assign [(.Name "share" _)] _ _) _ _; refine w1_set 0 t_law_multiple_share ?_) | (guard_target = W1 _ M_law_multiple _ (.Assign [(.Name "vector" _)] _ _) _ _; refine w1_set 1 t_law_multiple_vector ?_)) | (guard_target = W1 _ _ _ (.AugAssign _ _ _ _) _ _; first | (guard_target = W1 _ M_law_multiple _ (.AugAssign (.Name "share" _) _ _ _) _ _; first | refine w1_addI 0 t_law_multiple_share rfl ?_ | refine w1_subI 0 t_law_multiple_share rfl ?_) | (guard_target = W1 _ M_law_multiple _ (.AugAssign (.Name "vector" _) _ _ _) _ _; first | refine w1_addI 1 t_law_multiple_vector rfl ?_ | refine w1_subI 1 t_law_multiple_vector rfl ?_)) | (guard_target = W1 _ _ _ (.Assign [.Tuple _ _ _] _ _) _ _; refine w1_asg ?_))
  | (guard_target = WI _ _ _ _ _ _ _; first | refine wi_seq ?_)
  | (guard_target = WG _ _ _ _ _ _ _; first | (guard_target = WG _ M_law_multiple _ (.Name "share" _) _ _ _; refine wg_name 0 t_law_multiple_share ?_) | (guard_target = WG _ M_law_multiple _ (.Name "vector" _) _ _ _; refine wg_name 1 t_law_multiple_vector ?_) | refine wg_tup rfl ?_)
  | (guard_target = WH _ _ _ _ _ _ _; first | refine wh_cons ?_ | refine wh_nil ?_)
  | (guard_target = WV _ _ _ _ _ _ _ _; first | (guard_target = WV _ (blkNm M_law_multiple _ kd_law_multiple_0 gl_law_multiple_0) _ _ (.Name "p" _) _ _ _; refine wv_name 2 (t_law_multiple_0_p _) (by decide) ?_) | refine wv_tup rfl ?_)
  | (guard_target = WVs _ _ _ _ _ _ _ _; first | refine wvs_cons ?_ | refine wvs_nil ?_)
  | walk_at "dw_d"
  | fail)
set_option hygiene false in
local macro_rules | `(tactic| walk_at "st_law_frame") => `(tactic| first
  | (guard_target = WB _ _ _ _ _ _; first | (guard_target = WB _ _ _ (.Name _ _) _ _; first | (guard_target = WB _ M_law_frame _ (.Name "bag" _) _ _; first | refine wb_mu 0 r_law_frame_bag rfl ?_ | refine wb_of ?_) | (guard_target = WB _ M_law_frame _ (.Name "most" _) _ _; first | refine wb_mu 1 r_law_frame_most rfl ?_ | refine wb_of ?_) | (guard_target = WB _ M_law_frame _ (.Name "names" _) _ _; first | refine wb_mu 2 r_law_frame_names rfl ?_ | refine wb_of ?_) | (guard_target = WB _ M_law_frame _ (.Name "cells" _) _ _; first | refine wb_mu 3 r_law_frame_cells rfl ?_ | refine wb_of ?_) | (guard_target = WB _ M_law_frame _ (.Name "way" _) _ _; first | refine wb_mu 4 r_law_frame_way rfl ?_ | refine wb_of ?_) | (guard_target = WB _ M_law_frame _ (.Name "share" _) _ _; first | refine wb_mu 5 r_law_frame_share rfl ?_ | refine wb_of ?_) | (guard_target = WB _ M_law_frame _ (.Name "cell" _) _ _; first | refine wb_mu 6 r_law_frame_cell rfl ?_ | refine wb_of ?_) | (guard_target = WB _ M_law_frame _ (.Name "free" _) _ _; first | refine wb_mu 7 r_law_frame_free rfl ?_ | refine wb_of ?_) | (guard_target = WB _ M_law_frame _ (.Name "groups" _) _ _; first | refine wb_mu 8 r_law_frame_groups rfl ?_ | refine wb_of ?_) | (guard_target = WB _ (blkNm M_law_frame _ kd_law_frame_0 gl_law_frame_0) _ (.Name "bag" _) _ _; first | refine wb_mu 0 (r_law_frame_0_bag _) rfl ?_ | refine wb_of ?_) | (guard_target = WB _ (blkNm M_law_frame _ kd_law_frame_0 gl_law_frame_0) _ (.Name "cell" _) _ _; first | refine wb_mu 6 (r_law_frame_0_cell _) rfl ?_ | refine wb_of ?_) | (guard_target = WB _ (blkNm M_law_frame _ kd_law_frame_1 gl_law_frame_1) _ (.Name "free" _) _ _; first | refine wb_mu 7 (r_law_frame_1_free _) rfl ?_ | refine wb_of ?_) | (guard_target = WB _ (blkNm M_law_frame _ kd_law_frame_1 gl_law_frame_1) _ (.Name "one" _) _ _; first | refine wb_mu 9 (r_law_frame_1_one _) rfl ?_ | refine wb_of ?_) | (guard_target = WB _ (blkNm M_law_frame _ kd_law_frame_2 gl_law_frame_2) _ (.Name "group" _) _ _; first | refine wb_mu 10 (r_law_frame_2_group _) rfl ?_ | refine wb_of ?_) | refine wb_of ?_) | refine wb_of ?_)
  | (guard_target = WE _ _ _ _ _ _; first
     | (guard_target = WE _ _ _ (.Name _ _) _ _; first | (guard_target = WE _ M_law_frame _ (.Name "bag" _) _ _; refine we_var 0 r_law_frame_bag rfl ?_) | (guard_target = WE _ M_law_frame _ (.Name "most" _) _ _; refine we_var 1 r_law_frame_most rfl ?_) | (guard_target = WE _ M_law_frame _ (.Name "names" _) _ _; refine we_var 2 r_law_frame_names rfl ?_) | (guard_target = WE _ M_law_frame _ (.Name "cells" _) _ _; refine we_var 3 r_law_frame_cells rfl ?_) | (guard_target = WE _ M_law_frame _ (.Name "way" _) _ _; refine we_var 4 r_law_frame_way rfl ?_) | (guard_target = WE _ M_law_frame _ (.Name "share" _) _ _; refine we_var 5 r_law_frame_share rfl ?_) | (guard_target = WE _ M_law_frame _ (.Name "cell" _) _ _; refine we_var 6 r_law_frame_cell rfl ?_) | (guard_target = WE _ M_law_frame _ (.Name "free" _) _ _; refine we_var 7 r_law_frame_free rfl ?_) | (guard_target = WE _ M_law_frame _ (.Name "groups" _) _ _; refine we_var 8 r_law_frame_groups rfl ?_) | (guard_target = WE _ (blkNm M_law_frame _ kd_law_frame_0 gl_law_frame_0) _ (.Name "bag" _) _ _; refine we_var 0 (r_law_frame_0_bag _) rfl ?_) | (guard_target = WE _ (blkNm M_law_frame _ kd_law_frame_0 gl_law_frame_0) _ (.Name "cell" _) _ _; refine we_var 6 (r_law_frame_0_cell _) rfl ?_) | (guard_target = WE _ (blkNm M_law_frame _ kd_law_frame_1 gl_law_frame_1) _ (.Name "free" _) _ _; refine we_var 7 (r_law_frame_1_free _) rfl ?_) | (guard_target = WE _ (blkNm M_law_frame _ kd_law_frame_1 gl_law_frame_1) _ (.Name "one" _) _ _; refine we_var 9 (r_law_frame_1_one _) rfl ?_) | (guard_target = WE _ (blkNm M_law_frame _ kd_law_frame_2 gl_law_frame_2) _ (.Name "group" _) _ _; refine we_var 10 (r_law_frame_2_group _) rfl ?_))
     | (guard_target = WE _ _ _ (.Constant _ _ _) _ _; first | refine we_int ?_ | refine we_str ?_ | refine we_bool ?_ | refine we_none ?_)
     | (guard_target = WE _ _ _ (.Subscript _ _ _) _ _; first | (guard_target = WE _ M_law_frame _ (.Subscript (.Name "bag" _) (.Constant (.int 0) _ _) _) _ _; refine we_bag0 r_law_frame_bag rfl hF fun n hn => ?_) | (guard_target = WE _ M_law_frame _ (.Subscript (.Name "bag" _) (.Constant (.int 1) _ _) _) _ _; refine we_bag1 r_law_frame_bag rfl hF fun n hn hn2 => ?_) | (guard_target = WE _ M_law_frame _ (.Subscript (.Name "bag" _) (.Constant (.int 2) _ _) _) _ _; refine we_bag2 r_law_frame_bag rfl hF fun n hn => ?_) | (guard_target = WE _ M_law_frame _ (.Subscript (.Name "bag" _) (.Constant (.int 3) _ _) _) _ _; refine we_bag3 r_law_frame_bag rfl hF fun ns hln hns => ?_) | (guard_target = WE _ (blkNm M_law_frame _ kd_law_frame_0 gl_law_frame_0) _ (.Subscript (.Name "bag" _) (.Constant (.int 0) _ _) _) _ _; refine we_bag0 (r_law_frame_0_bag _) rfl hF fun n hn => ?_) | (guard_target = WE _ (blkNm M_law_frame _ kd_law_frame_0 gl_law_frame_0) _ (.Subscript (.Name "bag" _) (.Constant (.int 1) _ _) _) _ _; refine we_bag1 (r_law_frame_0_bag _) rfl hF fun n hn hn2 => ?_) | (guard_target = WE _ (blkNm M_law_frame _ kd_law_frame_0 gl_law_frame_0) _ (.Subscript (.Name "bag" _) (.Constant (.int 2) _ _) _) _ _; refine we_bag2 (r_law_frame_0_bag _) rfl hF fun n hn => ?_) | (guard_target = WE _ (blkNm M_law_frame _ kd_law_frame_0 gl_law_frame_0) _ (.Subscript (.Name "bag" _) (.Constant (.int 3) _ _) _) _ _; refine we_bag3 (r_law_frame_0_bag _) rfl hF fun ns hln hns => ?_) | refine we_ix ?_ | refine we_slice ?_)
     | (guard_target = WE _ _ _ (.Call (.Name _ _) _ _ _) _ _; first | (guard_target = WE _ M_law_frame _ (.Call (.Name "_law_mixed" _) _ _ _) _ _; refine we_bag f_law_mixed g_law_frame__law_mixed (by omega) r_law_frame_bag rfl hF ?_) | (guard_target = WE _ M_law_frame _ (.Call (.Name "tuple" _) _ _ _) _ _; refine we_tup B.tuple g_law_frame_tuple ?_) | (guard_target = WE _ M_law_frame _ (.Call (.Name "_law_take" _) _ _ _) _ _; refine we_bag f_law_take g_law_frame__law_take (by omega) r_law_frame_bag rfl hF ?_) | (guard_target = WE _ M_law_frame _ (.Call (.Name "_law_some" _) _ _ _) _ _; refine we_bag f_law_some g_law_frame__law_some (by omega) r_law_frame_bag rfl hF ?_) | (guard_target = WE _ M_law_frame _ (.Call (.Name "len" _) _ _ _) _ _; refine we_len B.len g_law_frame_len ?_) | (guard_target = WE _ (blkNm M_law_frame _ kd_law_frame_0 gl_law_frame_0) _ (.Call (.Name "_law_take" _) _ _ _) _ _; refine we_bag f_law_take (g_law_frame_0__law_take _) (by omega) (r_law_frame_0_bag _) rfl hF ?_) | (guard_target = WE _ (blkNm M_law_frame _ kd_law_frame_0 gl_law_frame_0) _ (.Call (.Name "_law_some" _) _ _ _) _ _; refine we_bag f_law_some (g_law_frame_0__law_some _) (by omega) (r_law_frame_0_bag _) rfl hF ?_) | (guard_target = WE _ (blkNm M_law_frame _ kd_law_frame_2 gl_law_frame_2) _ (.Call (.Name "tuple" _) _ _ _) _ _; refine we_tup B.tuple (g_law_frame_2_tuple _) ?_))
     | (guard_target = WE _ _ _ (.BinOp _ _ _ _) _ _; first | refine we_add ?_ | refine we_sub ?_ | refine we_mul ?_ | refine we_mod ?_ | refine we_fdiv ?_ | refine we_pow ?_)
     | (guard_target = WE _ _ _ (.Compare _ _ _ _) _ _; first | refine we_eq ?_ | refine we_ne ?_ | refine we_lt ?_ | refine we_le ?_ | refine we_gt ?_ | refine we_ge ?_ | refine we_in ?_ | refine we_notin ?_)
     | walk_at "dw_we")
  | (guard_target = WT _ _ _ _ _ _; walk_at "dw_wt")
  | (guard_target = WL _ _ _ _ _ _; first | refine wl_cons ?_ | refine wl_nil ?_)
  | (guard_target = WW _ _ _ _ _ _; first | refine ww_and ?_ | refine ww_or ?_ | refine ww_and1 ?_ | refine ww_or1 ?_)
  | (guard_target = WO _ _ _ _ _ _; first | refine wo_none ?_ | refine wo_some ?_)
  | (guard_target = WF _ _ _ _ _ _; first | refine wf_list ?_ | refine wf_lc ?_)
  | (guard_target = WS _ _ _ _ _ _; first | refine ws_cons ?_ | refine ws_nil ?_)
  | (guard_target = W1 _ _ _ _ _ _; first | walk_at "dw_1" | (guard_target = W1 _ _ _ (.Assign [.Tuple [.Name "way" _, .Name "share" _] _ _] (.Tuple _ _ _) _) _ _; refine w1_par 4 5 l_law_frame_way l_law_frame_share (by decide) ?_) | (guard_target = W1 _ M_law_frame _ (.Assign [(.Name "bag" _)] (.List _ _) _) _ _; refine w1_set 0 t_law_frame_bag ?_) | (guard_target = W1 _ M_law_frame _ (.Assign [(.Name "bag" _)] (.ListComp _ _ _ _) _) _ _; refine w1_lcC 0 rfl rfl ?_) | (guard_target = W1 _ M_law_frame _ (.Assign [(.Name "most" _)] (.List _ _) _) _ _; refine w1_set 1 t_law_frame_most ?_) | (guard_target = W1 _ M_law_frame _ (.Assign [(.Name "most" _)] (.ListComp _ _ _ _) _) _ _; refine w1_lc 1 l_law_frame_most ?_) | (guard_target = W1 _ M_law_frame _ (.Assign [(.Name "names" _)] (.List _ _) _) _ _; refine w1_set 2 t_law_frame_names ?_) | (guard_target = W1 _ M_law_frame _ (.Assign [(.Name "names" _)] (.ListComp _ _ _ _) _) _ _; refine w1_lc 2 l_law_frame_names ?_) | (guard_target = W1 _ M_law_frame _ (.Assign [(.Name "cells" _)] (.List _ _) _) _ _; refine w1_set 3 t_law_frame_cells ?_) | (guard_target = W1 _ M_law_frame _ (.Assign [(.Name "cells" _)] (.ListComp _ _ _ _) _) _ _; refine w1_lc 3 l_law_frame_cells ?_) | (guard_target = W1 _ M_law_frame _ (.Assign [(.Name "way" _)] (.List _ _) _) _ _; refine w1_set 4 t_law_frame_way ?_) | (guard_target = W1 _ M_law_frame _ (.Assign [(.Name "way" _)] (.ListComp _ _ _ _) _) _ _; refine w1_lc 4 l_law_frame_way ?_) | (guard_target = W1 _ M_law_frame _ (.Assign [(.Name "share" _)] (.List _ _) _) _ _; refine w1_set 5 t_law_frame_share ?_) | (guard_target = W1 _ M_law_frame _ (.Assign [(.Name "share" _)] (.ListComp _ _ _ _) _) _ _; refine w1_lc 5 l_law_frame_share ?_) | (guard_target = W1 _ M_law_frame _ (.Assign [(.Name "cell" _)] (.List _ _) _) _ _; refine w1_set 6 t_law_frame_cell ?_) | (guard_target = W1 _ M_law_frame _ (.Assign [(.Name "cell" _)] (.ListComp _ _ _ _) _) _ _; refine w1_lc 6 l_law_frame_cell ?_) | (guard_target = W1 _ M_law_frame _ (.Assign [(.Name "free" _)] (.List _ _) _) _ _; refine w1_set 7 t_law_frame_free ?_) | (guard_target = W1 _ M_law_frame _ (.Assign [(.Name "free" _)] (.ListComp _ _ _ _) _) _ _; refine w1_lcC 7 rfl rfl ?_) | (guard_target = W1 _ M_law_frame _ (.Expr (.Call (.Attribute (.Name "groups" _) "append" _) _ _ _) _) _ _; refine w1_append 8 r_law_frame_groups rfl ?_) | (guard_target = W1 _ M_law_frame _ (.Expr (.Call (.Attribute (.Name "groups" _) "extend" _) _ _ _) _) _ _; refine w1_extend 8 r_law_frame_groups rfl ?_) | (guard_target = W1 _ M_law_frame _ (.Expr (.Call (.Attribute (.Name "groups" _) "insert" _) _ _ _) _) _ _; refine w1_insert 8 r_law_frame_groups rfl ?_) | (guard_target = W1 _ M_law_frame _ (.Assign [(.Name "groups" _)] (.List _ _) _) _ _; refine w1_own 8 t_law_frame_groups (wf_list ?_)) | (guard_target = W1 _ M_law_frame _ (.Assign [(.Name "groups" _)] (.ListComp _ _ _ _) _) _ _; refine w1_lcOwn 8 l_law_frame_groups ?_) | (guard_target = W1 _ _ _ (.Assign [(.Subscript (.Name "bag" _) (.Constant (.int 0) _ _) _)] _ _) _ _; refine w1_bag0 r_law_frame_bag rfl hF ?_) | (guard_target = W1 _ _ _ (.Assign [(.Subscript (.Name "bag" _) (.Constant (.int 1) _ _) _)] _ _) _ _; refine w1_bag1 r_law_frame_bag rfl hF ?_) | (guard_target = W1 _ _ _ (.AugAssign (.Subscript (.Name "bag" _) (.Constant (.int 2) _ _) _) _ _ _) _ _; refine w1_bag2 r_law_frame_bag rfl hF ?_) | ((first | (guard_target = W1 _ _ _ (.Assign [.Name _ _] (.Call _ _ _ _) _) _ _) | (guard_target = W1 _ _ _ (.Assign [.Name _ _] (.BinOp _ _ _ _) _) _ _) | (guard_target = W1 _ _ _ (.Assign [.Name _ _] (.Name _ _) _) _ _) | (guard_target = W1 _ _ _ (.Assign [.Name _ _] (.Subscript _ _ _) _) _ _) | (guard_target = W1 _ _ _ (.Assign [.Name _ _] (.Constant _ _ _) _) _ _) | (guard_target = W1 _ _ _ (.Assign [.Name _ _] (.Compare _ _ _ _) _) _ _) | (guard_target = W1 _ _ _ (.Assign [.Name _ _] (.BoolOp _ _ _) _) _ _) | (guard_target = W1 _ _ _ (.Assign [.Name _ _] (.IfExp _ _ _ _) _) _ _) | (guard_target = W1 _ _ _ (.Assign [.Name _ _] (.Tuple _ _ _) _) _ _) | (guard_target = W1 _ _ _ (.Assign [.Name _ _] (.UnaryOp _ _ _) _) _ _)); first | (guard_target = W1 _ M_law_frame _ (.Assign [(.Name "bag" _)] _ _) _ _; refine w1_set 0 t_law_frame_bag ?_) | (guard_target = W1 _ M_law_frame _ (.Assign [(.Name "most" _)] _ _) _ _; refine w1_set 1 t_law_frame_most ?_) | (guard_target = W1 _ M_law_frame _ (.Assign [(.Name "names" _)] _ _) _ _; refine w1_set 2 t_law_frame_names ?_) | (guard_target = W1 _ M_law_frame _ (.Assign [(.Name "cells" _)] _ _) _ _; refine w1_set 3 t_law_frame_cells ?_) | (guard_target = W1 _ M_law_frame _ (.Assign [(.Name "way" _)] _ _) _ _; refine w1_set 4 t_law_frame_way ?_) | (guard_target = W1 _ M_law_frame _ (.Assign [(.Name "share" _)] _ _) _ _; refine w1_set 5 t_law_frame_share ?_) | (guard_target = W1 _ M_law_frame _ (.Assign [(.Name "cell" _)] _ _) _ _; refine w1_set 6 t_law_frame_cell ?_) | (guard_target = W1 _ M_law_frame _ (.Assign [(.Name "free" _)] _ _) _ _; refine w1_set 7 t_law_frame_free ?_) | (guard_target = W1 _ M_law_frame _ (.Assign [(.Name "groups" _)] _ _) _ _; refine w1_set 8 t_law_frame_groups ?_)) | (guard_target = W1 _ _ _ (.AugAssign _ _ _ _) _ _; first | (guard_target = W1 _ M_law_frame _ (.AugAssign (.Name "bag" _) _ _ _) _ _; first | refine w1_addI 0 t_law_frame_bag rfl ?_ | refine w1_subI 0 t_law_frame_bag rfl ?_) | (guard_target = W1 _ M_law_frame _ (.AugAssign (.Name "most" _) _ _ _) _ _; first | refine w1_addI 1 t_law_frame_most rfl ?_ | refine w1_subI 1 t_law_frame_most rfl ?_) | (guard_target = W1 _ M_law_frame _ (.AugAssign (.Name "names" _) _ _ _) _ _; first | refine w1_addI 2 t_law_frame_names rfl ?_ | refine w1_subI 2 t_law_frame_names rfl ?_) | (guard_target = W1 _ M_law_frame _ (.AugAssign (.Name "cells" _) _ _ _) _ _; first | refine w1_addI 3 t_law_frame_cells rfl ?_ | refine w1_subI 3 t_law_frame_cells rfl ?_) | (guard_target = W1 _ M_law_frame _ (.AugAssign (.Name "way" _) _ _ _) _ _; first | refine w1_addI 4 t_law_frame_way rfl ?_ | refine w1_subI 4 t_law_frame_way rfl ?_) | (guard_target = W1 _ M_law_frame _ (.AugAssign (.Name "share" _) _ _ _) _ _; first | refine w1_addI 5 t_law_frame_share rfl ?_ | refine w1_subI 5 t_law_frame_share rfl ?_) | (guard_target = W1 _ M_law_frame _ (.AugAssign (.Name "cell" _) _ _ _) _ _; first | refine w1_addI 6 t_law_frame_cell rfl ?_ | refine w1_subI 6 t_law_frame_cell rfl ?_) | (guard_target = W1 _ M_law_frame _ (.AugAssign (.Name "free" _) _ _ _) _ _; first | refine w1_addI 7 t_law_frame_free rfl ?_ | refine w1_subI 7 t_law_frame_free rfl ?_) | (guard_target = W1 _ M_law_frame _ (.AugAssign (.Name "groups" _) _ _ _) _ _; first | refine w1_addI 8 t_law_frame_groups rfl ?_ | refine w1_subI 8 t_law_frame_groups rfl ?_)) | (guard_target = W1 _ _ _ (.Assign [.Tuple _ _ _] _ _) _ _; refine w1_asg ?_))
  | (guard_target = WI _ _ _ _ _ _ _; first | refine wi_seq ?_)
  | (guard_target = WG _ _ _ _ _ _ _; first | (guard_target = WG _ M_law_frame _ (.Name "bag" _) _ _ _; refine wg_name 0 t_law_frame_bag ?_) | (guard_target = WG _ M_law_frame _ (.Name "most" _) _ _ _; refine wg_name 1 t_law_frame_most ?_) | (guard_target = WG _ M_law_frame _ (.Name "names" _) _ _ _; refine wg_name 2 t_law_frame_names ?_) | (guard_target = WG _ M_law_frame _ (.Name "cells" _) _ _ _; refine wg_name 3 t_law_frame_cells ?_) | (guard_target = WG _ M_law_frame _ (.Name "way" _) _ _ _; refine wg_name 4 t_law_frame_way ?_) | (guard_target = WG _ M_law_frame _ (.Name "share" _) _ _ _; refine wg_name 5 t_law_frame_share ?_) | (guard_target = WG _ M_law_frame _ (.Name "cell" _) _ _ _; refine wg_name 6 t_law_frame_cell ?_) | (guard_target = WG _ M_law_frame _ (.Name "free" _) _ _ _; refine wg_name 7 t_law_frame_free ?_) | (guard_target = WG _ M_law_frame _ (.Name "groups" _) _ _ _; refine wg_name 8 t_law_frame_groups ?_) | refine wg_tup rfl ?_)
  | (guard_target = WH _ _ _ _ _ _ _; first | refine wh_cons ?_ | refine wh_nil ?_)
  | (guard_target = WV _ _ _ _ _ _ _ _; first | (guard_target = WV _ (blkNm M_law_frame _ kd_law_frame_0 gl_law_frame_0) _ _ (.Name "cell" _) _ _ _; refine wv_name 6 (t_law_frame_0_cell _) (by decide) ?_) | (guard_target = WV _ (blkNm M_law_frame _ kd_law_frame_1 gl_law_frame_1) _ _ (.Name "one" _) _ _ _; refine wv_name 9 (t_law_frame_1_one _) (by decide) ?_) | (guard_target = WV _ (blkNm M_law_frame _ kd_law_frame_2 gl_law_frame_2) _ _ (.Name "group" _) _ _ _; refine wv_name 10 (t_law_frame_2_group _) (by decide) ?_) | refine wv_tup rfl ?_)
  | (guard_target = WVs _ _ _ _ _ _ _ _; first | refine wvs_cons ?_ | refine wvs_nil ?_)
  | walk_at "dw_d"
  | fail)
set_option hygiene false in
local macro_rules | `(tactic| walk_at "st_law_stand") => `(tactic| first
  | (guard_target = WB _ _ _ _ _ _; first | (guard_target = WB _ _ _ (.Name _ _) _ _; first | (guard_target = WB _ M_law_stand _ (.Name "bag" _) _ _; first | refine wb_mu 0 r_law_stand_bag rfl ?_ | refine wb_of ?_) | (guard_target = WB _ M_law_stand _ (.Name "many" _) _ _; first | refine wb_mu 1 r_law_stand_many rfl ?_ | refine wb_of ?_) | (guard_target = WB _ M_law_stand _ (.Name "den" _) _ _; first | refine wb_mu 2 r_law_stand_den rfl ?_ | refine wb_of ?_) | (guard_target = WB _ (blkNm M_law_stand _ kd_law_stand_0 gl_law_stand_0) _ (.Name "bag" _) _ _; first | refine wb_mu 0 (r_law_stand_0_bag _) rfl ?_ | refine wb_of ?_) | (guard_target = WB _ (blkNm M_law_stand _ kd_law_stand_0 gl_law_stand_0) _ (.Name "den" _) _ _; first | refine wb_mu 2 (r_law_stand_0_den _) rfl ?_ | refine wb_of ?_) | (guard_target = WB _ (blkNm M_law_stand _ kd_law_stand_0 gl_law_stand_0) _ (.Name "at" _) _ _; first | refine wb_mu 3 (r_law_stand_0_at _) rfl ?_ | refine wb_of ?_) | refine wb_of ?_) | refine wb_of ?_)
  | (guard_target = WE _ _ _ _ _ _; first
     | (guard_target = WE _ _ _ (.Name _ _) _ _; first | (guard_target = WE _ M_law_stand _ (.Name "bag" _) _ _; refine we_var 0 r_law_stand_bag rfl ?_) | (guard_target = WE _ M_law_stand _ (.Name "many" _) _ _; refine we_var 1 r_law_stand_many rfl ?_) | (guard_target = WE _ M_law_stand _ (.Name "den" _) _ _; refine we_var 2 r_law_stand_den rfl ?_) | (guard_target = WE _ (blkNm M_law_stand _ kd_law_stand_0 gl_law_stand_0) _ (.Name "bag" _) _ _; refine we_var 0 (r_law_stand_0_bag _) rfl ?_) | (guard_target = WE _ (blkNm M_law_stand _ kd_law_stand_0 gl_law_stand_0) _ (.Name "den" _) _ _; refine we_var 2 (r_law_stand_0_den _) rfl ?_) | (guard_target = WE _ (blkNm M_law_stand _ kd_law_stand_0 gl_law_stand_0) _ (.Name "at" _) _ _; refine we_var 3 (r_law_stand_0_at _) rfl ?_))
     | (guard_target = WE _ _ _ (.Constant _ _ _) _ _; first | refine we_int ?_ | refine we_str ?_ | refine we_bool ?_ | refine we_none ?_)
     | (guard_target = WE _ _ _ (.Subscript _ _ _) _ _; first | (guard_target = WE _ M_law_stand _ (.Subscript (.Name "bag" _) (.Constant (.int 0) _ _) _) _ _; refine we_bag0 r_law_stand_bag rfl hF fun n hn => ?_) | (guard_target = WE _ M_law_stand _ (.Subscript (.Name "bag" _) (.Constant (.int 1) _ _) _) _ _; refine we_bag1 r_law_stand_bag rfl hF fun n hn hn2 => ?_) | (guard_target = WE _ M_law_stand _ (.Subscript (.Name "bag" _) (.Constant (.int 2) _ _) _) _ _; refine we_bag2 r_law_stand_bag rfl hF fun n hn => ?_) | (guard_target = WE _ M_law_stand _ (.Subscript (.Name "bag" _) (.Constant (.int 3) _ _) _) _ _; refine we_bag3 r_law_stand_bag rfl hF fun ns hln hns => ?_) | (guard_target = WE _ (blkNm M_law_stand _ kd_law_stand_0 gl_law_stand_0) _ (.Subscript (.Name "bag" _) (.Constant (.int 0) _ _) _) _ _; refine we_bag0 (r_law_stand_0_bag _) rfl hF fun n hn => ?_) | (guard_target = WE _ (blkNm M_law_stand _ kd_law_stand_0 gl_law_stand_0) _ (.Subscript (.Name "bag" _) (.Constant (.int 1) _ _) _) _ _; refine we_bag1 (r_law_stand_0_bag _) rfl hF fun n hn hn2 => ?_) | (guard_target = WE _ (blkNm M_law_stand _ kd_law_stand_0 gl_law_stand_0) _ (.Subscript (.Name "bag" _) (.Constant (.int 2) _ _) _) _ _; refine we_bag2 (r_law_stand_0_bag _) rfl hF fun n hn => ?_) | (guard_target = WE _ (blkNm M_law_stand _ kd_law_stand_0 gl_law_stand_0) _ (.Subscript (.Name "bag" _) (.Constant (.int 3) _ _) _) _ _; refine we_bag3 (r_law_stand_0_bag _) rfl hF fun ns hln hns => ?_) | refine we_ix ?_ | refine we_slice ?_)
     | (guard_target = WE _ _ _ (.Call (.Name _ _) _ _ _) _ _; first | (guard_target = WE _ M_law_stand _ (.Call (.Name "_law_some" _) _ _ _) _ _; refine we_bag f_law_some g_law_stand__law_some (by omega) r_law_stand_bag rfl hF ?_) | (guard_target = WE _ M_law_stand _ (.Call (.Name "tuple" _) _ _ _) _ _; refine we_tup B.tuple g_law_stand_tuple ?_) | (guard_target = WE _ (blkNm M_law_stand _ kd_law_stand_0 gl_law_stand_0) _ (.Call (.Name "_law_fr" _) _ _ _) _ _; first | refine we_call f_law_fr (g_law_stand_0__law_fr _) (by omega) ?_ | refine we_call0 f_law_fr (g_law_stand_0__law_fr _) (by omega) ?_) | (guard_target = WE _ (blkNm M_law_stand _ kd_law_stand_0 gl_law_stand_0) _ (.Call (.Name "_law_take" _) _ _ _) _ _; refine we_bag f_law_take (g_law_stand_0__law_take _) (by omega) (r_law_stand_0_bag _) rfl hF ?_))
     | (guard_target = WE _ _ _ (.BinOp _ _ _ _) _ _; first | refine we_add ?_ | refine we_sub ?_ | refine we_mul ?_ | refine we_mod ?_ | refine we_fdiv ?_ | refine we_pow ?_)
     | (guard_target = WE _ _ _ (.Compare _ _ _ _) _ _; first | refine we_eq ?_ | refine we_ne ?_ | refine we_lt ?_ | refine we_le ?_ | refine we_gt ?_ | refine we_ge ?_ | refine we_in ?_ | refine we_notin ?_)
     | walk_at "dw_we")
  | (guard_target = WT _ _ _ _ _ _; walk_at "dw_wt")
  | (guard_target = WL _ _ _ _ _ _; first | refine wl_cons ?_ | refine wl_nil ?_)
  | (guard_target = WW _ _ _ _ _ _; first | refine ww_and ?_ | refine ww_or ?_ | refine ww_and1 ?_ | refine ww_or1 ?_)
  | (guard_target = WO _ _ _ _ _ _; first | refine wo_none ?_ | refine wo_some ?_)
  | (guard_target = WF _ _ _ _ _ _; first | refine wf_list ?_ | refine wf_lc ?_)
  | (guard_target = WS _ _ _ _ _ _; first | refine ws_cons ?_ | refine ws_nil ?_)
  | (guard_target = W1 _ _ _ _ _ _; first | walk_at "dw_1" | (guard_target = W1 _ M_law_stand _ (.Assign [(.Name "bag" _)] (.List _ _) _) _ _; refine w1_set 0 t_law_stand_bag ?_) | (guard_target = W1 _ M_law_stand _ (.Assign [(.Name "bag" _)] (.ListComp _ _ _ _) _) _ _; refine w1_lcC 0 rfl rfl ?_) | (guard_target = W1 _ M_law_stand _ (.Assign [(.Name "many" _)] (.List _ _) _) _ _; refine w1_set 1 t_law_stand_many ?_) | (guard_target = W1 _ M_law_stand _ (.Assign [(.Name "many" _)] (.ListComp _ _ _ _) _) _ _; refine w1_lc 1 l_law_stand_many ?_) | (guard_target = W1 _ M_law_stand _ (.Assign [(.Name "den" _)] (.List _ _) _) _ _; refine w1_set 2 t_law_stand_den ?_) | (guard_target = W1 _ M_law_stand _ (.Assign [(.Name "den" _)] (.ListComp _ _ _ _) _) _ _; refine w1_lcC 2 rfl rfl ?_) | (guard_target = W1 _ _ _ (.Assign [(.Subscript (.Name "bag" _) (.Constant (.int 0) _ _) _)] _ _) _ _; refine w1_bag0 r_law_stand_bag rfl hF ?_) | (guard_target = W1 _ _ _ (.Assign [(.Subscript (.Name "bag" _) (.Constant (.int 1) _ _) _)] _ _) _ _; refine w1_bag1 r_law_stand_bag rfl hF ?_) | (guard_target = W1 _ _ _ (.AugAssign (.Subscript (.Name "bag" _) (.Constant (.int 2) _ _) _) _ _ _) _ _; refine w1_bag2 r_law_stand_bag rfl hF ?_) | ((first | (guard_target = W1 _ _ _ (.Assign [.Name _ _] (.Call _ _ _ _) _) _ _) | (guard_target = W1 _ _ _ (.Assign [.Name _ _] (.BinOp _ _ _ _) _) _ _) | (guard_target = W1 _ _ _ (.Assign [.Name _ _] (.Name _ _) _) _ _) | (guard_target = W1 _ _ _ (.Assign [.Name _ _] (.Subscript _ _ _) _) _ _) | (guard_target = W1 _ _ _ (.Assign [.Name _ _] (.Constant _ _ _) _) _ _) | (guard_target = W1 _ _ _ (.Assign [.Name _ _] (.Compare _ _ _ _) _) _ _) | (guard_target = W1 _ _ _ (.Assign [.Name _ _] (.BoolOp _ _ _) _) _ _) | (guard_target = W1 _ _ _ (.Assign [.Name _ _] (.IfExp _ _ _ _) _) _ _) | (guard_target = W1 _ _ _ (.Assign [.Name _ _] (.Tuple _ _ _) _) _ _) | (guard_target = W1 _ _ _ (.Assign [.Name _ _] (.UnaryOp _ _ _) _) _ _)); first | (guard_target = W1 _ M_law_stand _ (.Assign [(.Name "bag" _)] _ _) _ _; refine w1_set 0 t_law_stand_bag ?_) | (guard_target = W1 _ M_law_stand _ (.Assign [(.Name "many" _)] _ _) _ _; refine w1_set 1 t_law_stand_many ?_) | (guard_target = W1 _ M_law_stand _ (.Assign [(.Name "den" _)] _ _) _ _; refine w1_set 2 t_law_stand_den ?_)) | (guard_target = W1 _ _ _ (.AugAssign _ _ _ _) _ _; first | (guard_target = W1 _ M_law_stand _ (.AugAssign (.Name "bag" _) _ _ _) _ _; first | refine w1_addI 0 t_law_stand_bag rfl ?_ | refine w1_subI 0 t_law_stand_bag rfl ?_) | (guard_target = W1 _ M_law_stand _ (.AugAssign (.Name "many" _) _ _ _) _ _; first | refine w1_addI 1 t_law_stand_many rfl ?_ | refine w1_subI 1 t_law_stand_many rfl ?_) | (guard_target = W1 _ M_law_stand _ (.AugAssign (.Name "den" _) _ _ _) _ _; first | refine w1_addI 2 t_law_stand_den rfl ?_ | refine w1_subI 2 t_law_stand_den rfl ?_)) | (guard_target = W1 _ _ _ (.Assign [.Tuple _ _ _] _ _) _ _; refine w1_asg ?_))
  | (guard_target = WI _ _ _ _ _ _ _; first | refine wi_range B.range g_law_stand_range ?_ | refine wi_range2 B.range g_law_stand_range ?_ | refine wi_seq ?_)
  | (guard_target = WG _ _ _ _ _ _ _; first | (guard_target = WG _ M_law_stand _ (.Name "bag" _) _ _ _; refine wg_name 0 t_law_stand_bag ?_) | (guard_target = WG _ M_law_stand _ (.Name "many" _) _ _ _; refine wg_name 1 t_law_stand_many ?_) | (guard_target = WG _ M_law_stand _ (.Name "den" _) _ _ _; refine wg_name 2 t_law_stand_den ?_) | refine wg_tup rfl ?_)
  | (guard_target = WH _ _ _ _ _ _ _; first | refine wh_cons ?_ | refine wh_nil ?_)
  | (guard_target = WV _ _ _ _ _ _ _ _; first | (guard_target = WV _ (blkNm M_law_stand _ kd_law_stand_0 gl_law_stand_0) _ _ (.Name "at" _) _ _ _; refine wv_name 3 (t_law_stand_0_at _) (by decide) ?_) | refine wv_tup rfl ?_)
  | (guard_target = WVs _ _ _ _ _ _ _ _; first | refine wvs_cons ?_ | refine wvs_nil ?_)
  | walk_at "dw_d"
  | fail)
set_option hygiene false in
local macro_rules | `(tactic| walk_at "st_law_reading") => `(tactic| first
  | (guard_target = WB _ _ _ _ _ _; first | (guard_target = WB _ _ _ (.Name _ _) _ _; first | (guard_target = WB _ M_law_reading _ (.Name "bag" _) _ _; first | refine wb_mu 0 r_law_reading_bag rfl ?_ | refine wb_of ?_) | (guard_target = WB _ M_law_reading _ (.Name "many" _) _ _; first | refine wb_mu 1 r_law_reading_many rfl ?_ | refine wb_of ?_) | (guard_target = WB _ M_law_reading _ (.Name "way" _) _ _; first | refine wb_mu 2 r_law_reading_way rfl ?_ | refine wb_of ?_) | (guard_target = WB _ M_law_reading _ (.Name "at" _) _ _; first | refine wb_mu 3 r_law_reading_at rfl ?_ | refine wb_of ?_) | (guard_target = WB _ M_law_reading _ (.Name "other" _) _ _; first | refine wb_mu 4 r_law_reading_other rfl ?_ | refine wb_of ?_) | (guard_target = WB _ (blkNm M_law_reading _ kd_law_reading_0 gl_law_reading_0) _ (.Name "bag" _) _ _; first | refine wb_mu 0 (r_law_reading_0_bag _) rfl ?_ | refine wb_of ?_) | (guard_target = WB _ (blkNm M_law_reading _ kd_law_reading_0 gl_law_reading_0) _ (.Name "at" _) _ _; first | refine wb_mu 3 (r_law_reading_0_at _) rfl ?_ | refine wb_of ?_) | (guard_target = WB _ (blkNm M_law_reading _ kd_law_reading_0 gl_law_reading_0) _ (.Name "spot" _) _ _; first | refine wb_mu 5 (r_law_reading_0_spot _) rfl ?_ | refine wb_of ?_) | (guard_target = WB _ (blkNm M_law_reading _ kd_law_reading_1 gl_law_reading_1) _ (.Name "at" _) _ _; first | refine wb_mu 3 (r_law_reading_1_at _) rfl ?_ | refine wb_of ?_) | (guard_target = WB _ (blkNm M_law_reading _ kd_law_reading_1 gl_law_reading_1) _ (.Name "other" _) _ _; first | refine wb_mu 4 (r_law_reading_1_other _) rfl ?_ | refine wb_of ?_) | (guard_target = WB _ (blkNm M_law_reading _ kd_law_reading_1 gl_law_reading_1) _ (.Name "spot" _) _ _; first | refine wb_mu 5 (r_law_reading_1_spot _) rfl ?_ | refine wb_of ?_) | (guard_target = WB _ (blkNm M_law_reading _ kd_law_reading_2 gl_law_reading_2) _ (.Name "bag" _) _ _; first | refine wb_mu 0 (r_law_reading_2_bag _) rfl ?_ | refine wb_of ?_) | (guard_target = WB _ (blkNm M_law_reading _ kd_law_reading_2 gl_law_reading_2) _ (.Name "spot" _) _ _; first | refine wb_mu 5 (r_law_reading_2_spot _) rfl ?_ | refine wb_of ?_) | refine wb_of ?_) | refine wb_of ?_)
  | (guard_target = WE _ _ _ _ _ _; first
     | (guard_target = WE _ _ _ (.Name _ _) _ _; first | (guard_target = WE _ M_law_reading _ (.Name "bag" _) _ _; refine we_var 0 r_law_reading_bag rfl ?_) | (guard_target = WE _ M_law_reading _ (.Name "many" _) _ _; refine we_var 1 r_law_reading_many rfl ?_) | (guard_target = WE _ M_law_reading _ (.Name "way" _) _ _; refine we_var 2 r_law_reading_way rfl ?_) | (guard_target = WE _ M_law_reading _ (.Name "at" _) _ _; refine we_var 3 r_law_reading_at rfl ?_) | (guard_target = WE _ M_law_reading _ (.Name "other" _) _ _; refine we_var 4 r_law_reading_other rfl ?_) | (guard_target = WE _ (blkNm M_law_reading _ kd_law_reading_0 gl_law_reading_0) _ (.Name "bag" _) _ _; refine we_var 0 (r_law_reading_0_bag _) rfl ?_) | (guard_target = WE _ (blkNm M_law_reading _ kd_law_reading_0 gl_law_reading_0) _ (.Name "at" _) _ _; refine we_var 3 (r_law_reading_0_at _) rfl ?_) | (guard_target = WE _ (blkNm M_law_reading _ kd_law_reading_0 gl_law_reading_0) _ (.Name "spot" _) _ _; refine we_var 5 (r_law_reading_0_spot _) rfl ?_) | (guard_target = WE _ (blkNm M_law_reading _ kd_law_reading_1 gl_law_reading_1) _ (.Name "at" _) _ _; refine we_var 3 (r_law_reading_1_at _) rfl ?_) | (guard_target = WE _ (blkNm M_law_reading _ kd_law_reading_1 gl_law_reading_1) _ (.Name "other" _) _ _; refine we_var 4 (r_law_reading_1_other _) rfl ?_) | (guard_target = WE _ (blkNm M_law_reading _ kd_law_reading_1 gl_law_reading_1) _ (.Name "spot" _) _ _; refine we_var 5 (r_law_reading_1_spot _) rfl ?_) | (guard_target = WE _ (blkNm M_law_reading _ kd_law_reading_2 gl_law_reading_2) _ (.Name "bag" _) _ _; refine we_var 0 (r_law_reading_2_bag _) rfl ?_) | (guard_target = WE _ (blkNm M_law_reading _ kd_law_reading_2 gl_law_reading_2) _ (.Name "spot" _) _ _; refine we_var 5 (r_law_reading_2_spot _) rfl ?_))
     | (guard_target = WE _ _ _ (.Constant _ _ _) _ _; first | refine we_int ?_ | refine we_str ?_ | refine we_bool ?_ | refine we_none ?_)
     | (guard_target = WE _ _ _ (.Subscript _ _ _) _ _; first | (guard_target = WE _ M_law_reading _ (.Subscript (.Name "bag" _) (.Constant (.int 0) _ _) _) _ _; refine we_bag0 r_law_reading_bag rfl hF fun n hn => ?_) | (guard_target = WE _ M_law_reading _ (.Subscript (.Name "bag" _) (.Constant (.int 1) _ _) _) _ _; refine we_bag1 r_law_reading_bag rfl hF fun n hn hn2 => ?_) | (guard_target = WE _ M_law_reading _ (.Subscript (.Name "bag" _) (.Constant (.int 2) _ _) _) _ _; refine we_bag2 r_law_reading_bag rfl hF fun n hn => ?_) | (guard_target = WE _ M_law_reading _ (.Subscript (.Name "bag" _) (.Constant (.int 3) _ _) _) _ _; refine we_bag3 r_law_reading_bag rfl hF fun ns hln hns => ?_) | (guard_target = WE _ (blkNm M_law_reading _ kd_law_reading_0 gl_law_reading_0) _ (.Subscript (.Name "bag" _) (.Constant (.int 0) _ _) _) _ _; refine we_bag0 (r_law_reading_0_bag _) rfl hF fun n hn => ?_) | (guard_target = WE _ (blkNm M_law_reading _ kd_law_reading_0 gl_law_reading_0) _ (.Subscript (.Name "bag" _) (.Constant (.int 1) _ _) _) _ _; refine we_bag1 (r_law_reading_0_bag _) rfl hF fun n hn hn2 => ?_) | (guard_target = WE _ (blkNm M_law_reading _ kd_law_reading_0 gl_law_reading_0) _ (.Subscript (.Name "bag" _) (.Constant (.int 2) _ _) _) _ _; refine we_bag2 (r_law_reading_0_bag _) rfl hF fun n hn => ?_) | (guard_target = WE _ (blkNm M_law_reading _ kd_law_reading_0 gl_law_reading_0) _ (.Subscript (.Name "bag" _) (.Constant (.int 3) _ _) _) _ _; refine we_bag3 (r_law_reading_0_bag _) rfl hF fun ns hln hns => ?_) | (guard_target = WE _ (blkNm M_law_reading _ kd_law_reading_2 gl_law_reading_2) _ (.Subscript (.Name "bag" _) (.Constant (.int 0) _ _) _) _ _; refine we_bag0 (r_law_reading_2_bag _) rfl hF fun n hn => ?_) | (guard_target = WE _ (blkNm M_law_reading _ kd_law_reading_2 gl_law_reading_2) _ (.Subscript (.Name "bag" _) (.Constant (.int 1) _ _) _) _ _; refine we_bag1 (r_law_reading_2_bag _) rfl hF fun n hn hn2 => ?_) | (guard_target = WE _ (blkNm M_law_reading _ kd_law_reading_2 gl_law_reading_2) _ (.Subscript (.Name "bag" _) (.Constant (.int 2) _ _) _) _ _; refine we_bag2 (r_law_reading_2_bag _) rfl hF fun n hn => ?_) | (guard_target = WE _ (blkNm M_law_reading _ kd_law_reading_2 gl_law_reading_2) _ (.Subscript (.Name "bag" _) (.Constant (.int 3) _ _) _) _ _; refine we_bag3 (r_law_reading_2_bag _) rfl hF fun ns hln hns => ?_) | refine we_ix ?_ | refine we_slice ?_)
     | (guard_target = WE _ _ _ (.Call (.Name _ _) _ _ _) _ _; first | (guard_target = WE _ M_law_reading _ (.Call (.Name "_law_take" _) _ _ _) _ _; refine we_bag f_law_take g_law_reading__law_take (by omega) r_law_reading_bag rfl hF ?_) | (guard_target = WE _ M_law_reading _ (.Call (.Name "tuple" _) _ _ _) _ _; refine we_tup B.tuple g_law_reading_tuple ?_) | (guard_target = WE _ (blkNm M_law_reading _ kd_law_reading_0 gl_law_reading_0) _ (.Call (.Name "_law_some" _) _ _ _) _ _; refine we_bag f_law_some (g_law_reading_0__law_some _) (by omega) (r_law_reading_0_bag _) rfl hF ?_) | (guard_target = WE _ (blkNm M_law_reading _ kd_law_reading_1 gl_law_reading_1) _ (.Call (.Name "int" _) _ _ _) _ _; refine we_toint B.int (g_law_reading_1_int _) ?_) | (guard_target = WE _ (blkNm M_law_reading _ kd_law_reading_2 gl_law_reading_2) _ (.Call (.Name "_law_some" _) _ _ _) _ _; refine we_bag f_law_some (g_law_reading_2__law_some _) (by omega) (r_law_reading_2_bag _) rfl hF ?_))
     | (guard_target = WE _ _ _ (.BinOp _ _ _ _) _ _; first | refine we_add ?_ | refine we_sub ?_ | refine we_mul ?_ | refine we_mod ?_ | refine we_fdiv ?_ | refine we_pow ?_)
     | (guard_target = WE _ _ _ (.Compare _ _ _ _) _ _; first | refine we_eq ?_ | refine we_ne ?_ | refine we_lt ?_ | refine we_le ?_ | refine we_gt ?_ | refine we_ge ?_ | refine we_in ?_ | refine we_notin ?_)
     | walk_at "dw_we")
  | (guard_target = WT _ _ _ _ _ _; walk_at "dw_wt")
  | (guard_target = WL _ _ _ _ _ _; first | refine wl_cons ?_ | refine wl_nil ?_)
  | (guard_target = WW _ _ _ _ _ _; first | refine ww_and ?_ | refine ww_or ?_ | refine ww_and1 ?_ | refine ww_or1 ?_)
  | (guard_target = WO _ _ _ _ _ _; first | refine wo_none ?_ | refine wo_some ?_)
  | (guard_target = WF _ _ _ _ _ _; first | refine wf_list ?_ | refine wf_lc ?_)
  | (guard_target = WS _ _ _ _ _ _; first | refine ws_cons ?_ | refine ws_nil ?_)
  | (guard_target = W1 _ _ _ _ _ _; first | walk_at "dw_1" | (guard_target = W1 _ _ _ (.Assign [.Tuple [.Name "way" _, .Name "at" _] _ _] (.Tuple _ _ _) _) _ _; refine w1_asgC 3 rfl rfl (List.Mem.tail _ (List.Mem.head _)) ?_) | (guard_target = W1 _ M_law_reading _ (.Assign [(.Name "bag" _)] (.List _ _) _) _ _; refine w1_set 0 t_law_reading_bag ?_) | (guard_target = W1 _ M_law_reading _ (.Assign [(.Name "bag" _)] (.ListComp _ _ _ _) _) _ _; refine w1_lcC 0 rfl rfl ?_) | (guard_target = W1 _ M_law_reading _ (.Assign [(.Name "many" _)] (.List _ _) _) _ _; refine w1_set 1 t_law_reading_many ?_) | (guard_target = W1 _ M_law_reading _ (.Assign [(.Name "many" _)] (.ListComp _ _ _ _) _) _ _; refine w1_lc 1 l_law_reading_many ?_) | (guard_target = W1 _ M_law_reading _ (.Assign [(.Name "way" _)] (.List _ _) _) _ _; refine w1_set 2 t_law_reading_way ?_) | (guard_target = W1 _ M_law_reading _ (.Assign [(.Name "way" _)] (.ListComp _ _ _ _) _) _ _; refine w1_lc 2 l_law_reading_way ?_) | (guard_target = W1 _ M_law_reading _ (.Assign [(.Name "at" _)] (.List _ _) _) _ _; refine w1_set 3 t_law_reading_at ?_) | (guard_target = W1 _ M_law_reading _ (.Assign [(.Name "at" _)] (.ListComp _ _ _ _) _) _ _; refine w1_lcC 3 rfl rfl ?_) | (guard_target = W1 _ M_law_reading _ (.Assign [(.Name "other" _)] (.List _ _) _) _ _; refine w1_set 4 t_law_reading_other ?_) | (guard_target = W1 _ M_law_reading _ (.Assign [(.Name "other" _)] (.ListComp _ _ _ _) _) _ _; refine w1_lcC 4 rfl rfl ?_) | (guard_target = W1 _ _ _ (.Assign [(.Subscript (.Name "bag" _) (.Constant (.int 0) _ _) _)] _ _) _ _; refine w1_bag0 r_law_reading_bag rfl hF ?_) | (guard_target = W1 _ _ _ (.Assign [(.Subscript (.Name "bag" _) (.Constant (.int 1) _ _) _)] _ _) _ _; refine w1_bag1 r_law_reading_bag rfl hF ?_) | (guard_target = W1 _ _ _ (.AugAssign (.Subscript (.Name "bag" _) (.Constant (.int 2) _ _) _) _ _ _) _ _; refine w1_bag2 r_law_reading_bag rfl hF ?_) | ((first | (guard_target = W1 _ _ _ (.Assign [.Name _ _] (.Call _ _ _ _) _) _ _) | (guard_target = W1 _ _ _ (.Assign [.Name _ _] (.BinOp _ _ _ _) _) _ _) | (guard_target = W1 _ _ _ (.Assign [.Name _ _] (.Name _ _) _) _ _) | (guard_target = W1 _ _ _ (.Assign [.Name _ _] (.Subscript _ _ _) _) _ _) | (guard_target = W1 _ _ _ (.Assign [.Name _ _] (.Constant _ _ _) _) _ _) | (guard_target = W1 _ _ _ (.Assign [.Name _ _] (.Compare _ _ _ _) _) _ _) | (guard_target = W1 _ _ _ (.Assign [.Name _ _] (.BoolOp _ _ _) _) _ _) | (guard_target = W1 _ _ _ (.Assign [.Name _ _] (.IfExp _ _ _ _) _) _ _) | (guard_target = W1 _ _ _ (.Assign [.Name _ _] (.Tuple _ _ _) _) _ _) | (guard_target = W1 _ _ _ (.Assign [.Name _ _] (.UnaryOp _ _ _) _) _ _)); first | (guard_target = W1 _ M_law_reading _ (.Assign [(.Name "bag" _)] _ _) _ _; refine w1_set 0 t_law_reading_bag ?_) | (guard_target = W1 _ M_law_reading _ (.Assign [(.Name "many" _)] _ _) _ _; refine w1_set 1 t_law_reading_many ?_) | (guard_target = W1 _ M_law_reading _ (.Assign [(.Name "way" _)] _ _) _ _; refine w1_set 2 t_law_reading_way ?_) | (guard_target = W1 _ M_law_reading _ (.Assign [(.Name "at" _)] _ _) _ _; refine w1_set 3 t_law_reading_at ?_) | (guard_target = W1 _ M_law_reading _ (.Assign [(.Name "other" _)] _ _) _ _; refine w1_set 4 t_law_reading_other ?_)) | (guard_target = W1 _ _ _ (.AugAssign _ _ _ _) _ _; first | (guard_target = W1 _ M_law_reading _ (.AugAssign (.Name "bag" _) _ _ _) _ _; first | refine w1_addI 0 t_law_reading_bag rfl ?_ | refine w1_subI 0 t_law_reading_bag rfl ?_) | (guard_target = W1 _ M_law_reading _ (.AugAssign (.Name "many" _) _ _ _) _ _; first | refine w1_addI 1 t_law_reading_many rfl ?_ | refine w1_subI 1 t_law_reading_many rfl ?_) | (guard_target = W1 _ M_law_reading _ (.AugAssign (.Name "way" _) _ _ _) _ _; first | refine w1_addI 2 t_law_reading_way rfl ?_ | refine w1_subI 2 t_law_reading_way rfl ?_) | (guard_target = W1 _ M_law_reading _ (.AugAssign (.Name "at" _) _ _ _) _ _; first | refine w1_addI 3 t_law_reading_at rfl ?_ | refine w1_subI 3 t_law_reading_at rfl ?_) | (guard_target = W1 _ M_law_reading _ (.AugAssign (.Name "other" _) _ _ _) _ _; first | refine w1_addI 4 t_law_reading_other rfl ?_ | refine w1_subI 4 t_law_reading_other rfl ?_)) | (guard_target = W1 _ _ _ (.Assign [.Tuple _ _ _] _ _) _ _; refine w1_asg ?_))
  | (guard_target = WI _ _ _ _ _ _ _; first | refine wi_range B.range g_law_reading_range ?_ | refine wi_range2 B.range g_law_reading_range ?_ | refine wi_seq ?_)
  | (guard_target = WG _ _ _ _ _ _ _; first | (guard_target = WG _ M_law_reading _ (.Name "bag" _) _ _ _; refine wg_name 0 t_law_reading_bag ?_) | (guard_target = WG _ M_law_reading _ (.Name "many" _) _ _ _; refine wg_name 1 t_law_reading_many ?_) | (guard_target = WG _ M_law_reading _ (.Name "way" _) _ _ _; refine wg_name 2 t_law_reading_way ?_) | (guard_target = WG _ M_law_reading _ (.Name "at" _) _ _ _; refine wg_name 3 t_law_reading_at ?_) | (guard_target = WG _ M_law_reading _ (.Name "other" _) _ _ _; refine wg_name 4 t_law_reading_other ?_) | refine wg_tup rfl ?_)
  | (guard_target = WH _ _ _ _ _ _ _; first | refine wh_cons ?_ | refine wh_nil ?_)
  | (guard_target = WV _ _ _ _ _ _ _ _; first | (guard_target = WV _ (blkNm M_law_reading _ kd_law_reading_0 gl_law_reading_0) _ _ (.Name "spot" _) _ _ _; refine wv_name 5 (t_law_reading_0_spot _) (by decide) ?_) | (guard_target = WV _ (blkNm M_law_reading _ kd_law_reading_1 gl_law_reading_1) _ _ (.Name "spot" _) _ _ _; refine wv_name 5 (t_law_reading_1_spot _) (by decide) ?_) | (guard_target = WV _ (blkNm M_law_reading _ kd_law_reading_2 gl_law_reading_2) _ _ (.Name "spot" _) _ _ _; refine wv_name 5 (t_law_reading_2_spot _) (by decide) ?_) | refine wv_tup rfl ?_)
  | (guard_target = WVs _ _ _ _ _ _ _ _; first | refine wvs_cons ?_ | refine wvs_nil ?_)
  | walk_at "dw_d"
  | fail)
set_option hygiene false in
local macro_rules | `(tactic| walk_at "st_law_number") => `(tactic| first
  | (guard_target = WB _ _ _ _ _ _; first | (guard_target = WB _ _ _ (.Name _ _) _ _; first | (guard_target = WB _ M_law_number _ (.Name "bag" _) _ _; first | refine wb_mu 0 r_law_number_bag rfl ?_ | refine wb_of ?_) | (guard_target = WB _ M_law_number _ (.Name "way" _) _ _; first | refine wb_mu 1 r_law_number_way rfl ?_ | refine wb_of ?_) | refine wb_of ?_) | refine wb_of ?_)
  | (guard_target = WE _ _ _ _ _ _; first
     | (guard_target = WE _ _ _ (.Name _ _) _ _; first | (guard_target = WE _ M_law_number _ (.Name "bag" _) _ _; refine we_var 0 r_law_number_bag rfl ?_) | (guard_target = WE _ M_law_number _ (.Name "way" _) _ _; refine we_var 1 r_law_number_way rfl ?_))
     | (guard_target = WE _ _ _ (.Constant _ _ _) _ _; first | refine we_int ?_ | refine we_str ?_ | refine we_bool ?_ | refine we_none ?_)
     | (guard_target = WE _ _ _ (.Subscript _ _ _) _ _; first | (guard_target = WE _ M_law_number _ (.Subscript (.Name "bag" _) (.Constant (.int 0) _ _) _) _ _; refine we_bag0 r_law_number_bag rfl hF fun n hn => ?_) | (guard_target = WE _ M_law_number _ (.Subscript (.Name "bag" _) (.Constant (.int 1) _ _) _) _ _; refine we_bag1 r_law_number_bag rfl hF fun n hn hn2 => ?_) | (guard_target = WE _ M_law_number _ (.Subscript (.Name "bag" _) (.Constant (.int 2) _ _) _) _ _; refine we_bag2 r_law_number_bag rfl hF fun n hn => ?_) | (guard_target = WE _ M_law_number _ (.Subscript (.Name "bag" _) (.Constant (.int 3) _ _) _) _ _; refine we_bag3 r_law_number_bag rfl hF fun ns hln hns => ?_) | refine we_ix ?_ | refine we_slice ?_)
     | (guard_target = WE _ _ _ (.Call (.Name _ _) _ _ _) _ _; first | (guard_target = WE _ M_law_number _ (.Call (.Name "_law_take" _) _ _ _) _ _; refine we_bag f_law_take g_law_number__law_take (by omega) r_law_number_bag rfl hF ?_))
     | (guard_target = WE _ _ _ (.BinOp _ _ _ _) _ _; first | refine we_add ?_ | refine we_sub ?_ | refine we_mul ?_ | refine we_mod ?_ | refine we_fdiv ?_ | refine we_pow ?_)
     | (guard_target = WE _ _ _ (.Compare _ _ _ _) _ _; first | refine we_eq ?_ | refine we_ne ?_ | refine we_lt ?_ | refine we_le ?_ | refine we_gt ?_ | refine we_ge ?_ | refine we_in ?_ | refine we_notin ?_)
     | walk_at "dw_we")
  | (guard_target = WT _ _ _ _ _ _; walk_at "dw_wt")
  | (guard_target = WL _ _ _ _ _ _; first | refine wl_cons ?_ | refine wl_nil ?_)
  | (guard_target = WW _ _ _ _ _ _; first | refine ww_and ?_ | refine ww_or ?_ | refine ww_and1 ?_ | refine ww_or1 ?_)
  | (guard_target = WO _ _ _ _ _ _; first | refine wo_none ?_ | refine wo_some ?_)
  | (guard_target = WF _ _ _ _ _ _; first | refine wf_list ?_ | refine wf_lc ?_)
  | (guard_target = WS _ _ _ _ _ _; first | refine ws_cons ?_ | refine ws_nil ?_)
  | (guard_target = W1 _ _ _ _ _ _; first | walk_at "dw_1" | (guard_target = W1 _ M_law_number _ (.Assign [(.Name "bag" _)] (.List _ _) _) _ _; refine w1_set 0 t_law_number_bag ?_) | (guard_target = W1 _ M_law_number _ (.Assign [(.Name "bag" _)] (.ListComp _ _ _ _) _) _ _; refine w1_lc 0 l_law_number_bag ?_) | (guard_target = W1 _ M_law_number _ (.Assign [(.Name "way" _)] (.List _ _) _) _ _; refine w1_set 1 t_law_number_way ?_) | (guard_target = W1 _ M_law_number _ (.Assign [(.Name "way" _)] (.ListComp _ _ _ _) _) _ _; refine w1_lc 1 l_law_number_way ?_) | (guard_target = W1 _ _ _ (.Assign [(.Subscript (.Name "bag" _) (.Constant (.int 0) _ _) _)] _ _) _ _; refine w1_bag0 r_law_number_bag rfl hF ?_) | (guard_target = W1 _ _ _ (.Assign [(.Subscript (.Name "bag" _) (.Constant (.int 1) _ _) _)] _ _) _ _; refine w1_bag1 r_law_number_bag rfl hF ?_) | (guard_target = W1 _ _ _ (.AugAssign (.Subscript (.Name "bag" _) (.Constant (.int 2) _ _) _) _ _ _) _ _; refine w1_bag2 r_law_number_bag rfl hF ?_) | ((first | (guard_target = W1 _ _ _ (.Assign [.Name _ _] (.Call _ _ _ _) _) _ _) | (guard_target = W1 _ _ _ (.Assign [.Name _ _] (.BinOp _ _ _ _) _) _ _) | (guard_target = W1 _ _ _ (.Assign [.Name _ _] (.Name _ _) _) _ _) | (guard_target = W1 _ _ _ (.Assign [.Name _ _] (.Subscript _ _ _) _) _ _) | (guard_target = W1 _ _ _ (.Assign [.Name _ _] (.Constant _ _ _) _) _ _) | (guard_target = W1 _ _ _ (.Assign [.Name _ _] (.Compare _ _ _ _) _) _ _) | (guard_target = W1 _ _ _ (.Assign [.Name _ _] (.BoolOp _ _ _) _) _ _) | (guard_target = W1 _ _ _ (.Assign [.Name _ _] (.IfExp _ _ _ _) _) _ _) | (guard_target = W1 _ _ _ (.Assign [.Name _ _] (.Tuple _ _ _) _) _ _) | (guard_target = W1 _ _ _ (.Assign [.Name _ _] (.UnaryOp _ _ _) _) _ _)); first | (guard_target = W1 _ M_law_number _ (.Assign [(.Name "bag" _)] _ _) _ _; refine w1_set 0 t_law_number_bag ?_) | (guard_target = W1 _ M_law_number _ (.Assign [(.Name "way" _)] _ _) _ _; refine w1_set 1 t_law_number_way ?_)) | (guard_target = W1 _ _ _ (.AugAssign _ _ _ _) _ _; first | (guard_target = W1 _ M_law_number _ (.AugAssign (.Name "bag" _) _ _ _) _ _; first | refine w1_addI 0 t_law_number_bag rfl ?_ | refine w1_subI 0 t_law_number_bag rfl ?_) | (guard_target = W1 _ M_law_number _ (.AugAssign (.Name "way" _) _ _ _) _ _; first | refine w1_addI 1 t_law_number_way rfl ?_ | refine w1_subI 1 t_law_number_way rfl ?_)) | (guard_target = W1 _ _ _ (.Assign [.Tuple _ _ _] _ _) _ _; refine w1_asg ?_))
  | (guard_target = WI _ _ _ _ _ _ _; first | refine wi_seq ?_)
  | (guard_target = WG _ _ _ _ _ _ _; first | (guard_target = WG _ M_law_number _ (.Name "bag" _) _ _ _; refine wg_name 0 t_law_number_bag ?_) | (guard_target = WG _ M_law_number _ (.Name "way" _) _ _ _; refine wg_name 1 t_law_number_way ?_) | refine wg_tup rfl ?_)
  | (guard_target = WH _ _ _ _ _ _ _; first | refine wh_cons ?_ | refine wh_nil ?_)
  | (guard_target = WV _ _ _ _ _ _ _ _; first | refine wv_tup rfl ?_)
  | (guard_target = WVs _ _ _ _ _ _ _ _; first | refine wvs_cons ?_ | refine wvs_nil ?_)
  | walk_at "dw_d"
  | fail)
set_option hygiene false in
local macro_rules | `(tactic| walk_at "st_law_drawn_fraction") => `(tactic| first
  | (guard_target = WB _ _ _ _ _ _; first | (guard_target = WB _ _ _ (.Name _ _) _ _; first | (guard_target = WB _ M_law_drawn_fraction _ (.Name "bag" _) _ _; first | refine wb_mu 0 r_law_drawn_fraction_bag rfl ?_ | refine wb_of ?_) | refine wb_of ?_) | refine wb_of ?_)
  | (guard_target = WE _ _ _ _ _ _; first
     | (guard_target = WE _ _ _ (.Name _ _) _ _; first | (guard_target = WE _ M_law_drawn_fraction _ (.Name "bag" _) _ _; refine we_var 0 r_law_drawn_fraction_bag rfl ?_))
     | (guard_target = WE _ _ _ (.Constant _ _ _) _ _; first | refine we_int ?_ | refine we_str ?_ | refine we_bool ?_ | refine we_none ?_)
     | (guard_target = WE _ _ _ (.Subscript _ _ _) _ _; first | (guard_target = WE _ M_law_drawn_fraction _ (.Subscript (.Name "bag" _) (.Constant (.int 0) _ _) _) _ _; refine we_bag0 r_law_drawn_fraction_bag rfl hF fun n hn => ?_) | (guard_target = WE _ M_law_drawn_fraction _ (.Subscript (.Name "bag" _) (.Constant (.int 1) _ _) _) _ _; refine we_bag1 r_law_drawn_fraction_bag rfl hF fun n hn hn2 => ?_) | (guard_target = WE _ M_law_drawn_fraction _ (.Subscript (.Name "bag" _) (.Constant (.int 2) _ _) _) _ _; refine we_bag2 r_law_drawn_fraction_bag rfl hF fun n hn => ?_) | (guard_target = WE _ M_law_drawn_fraction _ (.Subscript (.Name "bag" _) (.Constant (.int 3) _ _) _) _ _; refine we_bag3 r_law_drawn_fraction_bag rfl hF fun ns hln hns => ?_) | refine we_ix ?_ | refine we_slice ?_)
     | (guard_target = WE _ _ _ (.Call (.Name _ _) _ _ _) _ _; first | (guard_target = WE _ M_law_drawn_fraction _ (.Call (.Name "_law_fr" _) _ _ _) _ _; first | refine we_call f_law_fr g_law_drawn_fraction__law_fr (by omega) ?_ | refine we_call0 f_law_fr g_law_drawn_fraction__law_fr (by omega) ?_) | (guard_target = WE _ M_law_drawn_fraction _ (.Call (.Name "_law_number" _) _ _ _) _ _; refine we_bag f_law_number g_law_drawn_fraction__law_number (by omega) r_law_drawn_fraction_bag rfl hF ?_) | (guard_target = WE _ M_law_drawn_fraction _ (.Call (.Name "abs" _) _ _ _) _ _; refine we_abs B.abs g_law_drawn_fraction_abs ?_))
     | (guard_target = WE _ _ _ (.BinOp _ _ _ _) _ _; first | refine we_add ?_ | refine we_sub ?_ | refine we_mul ?_ | refine we_mod ?_ | refine we_fdiv ?_ | refine we_pow ?_)
     | (guard_target = WE _ _ _ (.Compare _ _ _ _) _ _; first | refine we_eq ?_ | refine we_ne ?_ | refine we_lt ?_ | refine we_le ?_ | refine we_gt ?_ | refine we_ge ?_ | refine we_in ?_ | refine we_notin ?_)
     | walk_at "dw_we")
  | (guard_target = WT _ _ _ _ _ _; walk_at "dw_wt")
  | (guard_target = WL _ _ _ _ _ _; first | refine wl_cons ?_ | refine wl_nil ?_)
  | (guard_target = WW _ _ _ _ _ _; first | refine ww_and ?_ | refine ww_or ?_ | refine ww_and1 ?_ | refine ww_or1 ?_)
  | (guard_target = WO _ _ _ _ _ _; first | refine wo_none ?_ | refine wo_some ?_)
  | (guard_target = WF _ _ _ _ _ _; first | refine wf_list ?_ | refine wf_lc ?_)
  | (guard_target = WS _ _ _ _ _ _; first | refine ws_cons ?_ | refine ws_nil ?_)
  | (guard_target = W1 _ _ _ _ _ _; first | walk_at "dw_1" | (guard_target = W1 _ M_law_drawn_fraction _ (.Assign [(.Name "bag" _)] (.List _ _) _) _ _; refine w1_set 0 t_law_drawn_fraction_bag ?_) | (guard_target = W1 _ M_law_drawn_fraction _ (.Assign [(.Name "bag" _)] (.ListComp _ _ _ _) _) _ _; refine w1_lc 0 l_law_drawn_fraction_bag ?_) | (guard_target = W1 _ _ _ (.Assign [(.Subscript (.Name "bag" _) (.Constant (.int 0) _ _) _)] _ _) _ _; refine w1_bag0 r_law_drawn_fraction_bag rfl hF ?_) | (guard_target = W1 _ _ _ (.Assign [(.Subscript (.Name "bag" _) (.Constant (.int 1) _ _) _)] _ _) _ _; refine w1_bag1 r_law_drawn_fraction_bag rfl hF ?_) | (guard_target = W1 _ _ _ (.AugAssign (.Subscript (.Name "bag" _) (.Constant (.int 2) _ _) _) _ _ _) _ _; refine w1_bag2 r_law_drawn_fraction_bag rfl hF ?_) | ((first | (guard_target = W1 _ _ _ (.Assign [.Name _ _] (.Call _ _ _ _) _) _ _) | (guard_target = W1 _ _ _ (.Assign [.Name _ _] (.BinOp _ _ _ _) _) _ _) | (guard_target = W1 _ _ _ (.Assign [.Name _ _] (.Name _ _) _) _ _) | (guard_target = W1 _ _ _ (.Assign [.Name _ _] (.Subscript _ _ _) _) _ _) | (guard_target = W1 _ _ _ (.Assign [.Name _ _] (.Constant _ _ _) _) _ _) | (guard_target = W1 _ _ _ (.Assign [.Name _ _] (.Compare _ _ _ _) _) _ _) | (guard_target = W1 _ _ _ (.Assign [.Name _ _] (.BoolOp _ _ _) _) _ _) | (guard_target = W1 _ _ _ (.Assign [.Name _ _] (.IfExp _ _ _ _) _) _ _) | (guard_target = W1 _ _ _ (.Assign [.Name _ _] (.Tuple _ _ _) _) _ _) | (guard_target = W1 _ _ _ (.Assign [.Name _ _] (.UnaryOp _ _ _) _) _ _)); first | (guard_target = W1 _ M_law_drawn_fraction _ (.Assign [(.Name "bag" _)] _ _) _ _; refine w1_set 0 t_law_drawn_fraction_bag ?_)) | (guard_target = W1 _ _ _ (.AugAssign _ _ _ _) _ _; first | (guard_target = W1 _ M_law_drawn_fraction _ (.AugAssign (.Name "bag" _) _ _ _) _ _; first | refine w1_addI 0 t_law_drawn_fraction_bag rfl ?_ | refine w1_subI 0 t_law_drawn_fraction_bag rfl ?_)) | (guard_target = W1 _ _ _ (.Assign [.Tuple _ _ _] _ _) _ _; refine w1_asg ?_))
  | (guard_target = WI _ _ _ _ _ _ _; first | refine wi_seq ?_)
  | (guard_target = WG _ _ _ _ _ _ _; first | (guard_target = WG _ M_law_drawn_fraction _ (.Name "bag" _) _ _ _; refine wg_name 0 t_law_drawn_fraction_bag ?_) | refine wg_tup rfl ?_)
  | (guard_target = WH _ _ _ _ _ _ _; first | refine wh_cons ?_ | refine wh_nil ?_)
  | (guard_target = WV _ _ _ _ _ _ _ _; first | refine wv_tup rfl ?_)
  | (guard_target = WVs _ _ _ _ _ _ _ _; first | refine wvs_cons ?_ | refine wvs_nil ?_)
  | walk_at "dw_d"
  | fail)
set_option hygiene false in
local macro_rules | `(tactic| walk_at "st_law_floor") => `(tactic| first
  | (guard_target = WB _ _ _ _ _ _; first | (guard_target = WB _ _ _ (.Name _ _) _ _; first | (guard_target = WB _ M_law_floor _ (.Name "one" _) _ _; first | refine wb_mu 0 r_law_floor_one rfl ?_ | refine wb_of ?_) | refine wb_of ?_) | refine wb_of ?_)
  | (guard_target = WE _ _ _ _ _ _; first
     | (guard_target = WE _ _ _ (.Name _ _) _ _; first | (guard_target = WE _ M_law_floor _ (.Name "one" _) _ _; refine we_var 0 r_law_floor_one rfl ?_))
     | (guard_target = WE _ _ _ (.Constant _ _ _) _ _; first | refine we_int ?_ | refine we_str ?_ | refine we_bool ?_ | refine we_none ?_)
     | (guard_target = WE _ _ _ (.Subscript _ _ _) _ _; first | refine we_ix ?_ | refine we_slice ?_)
     | (guard_target = WE _ _ _ (.Call (.Name _ _) _ _ _) _ _; first | (guard_target = WE _ M_law_floor _ (.Call (.Name "int" _) _ _ _) _ _; refine we_toint B.int g_law_floor_int ?_))
     | (guard_target = WE _ _ _ (.BinOp _ _ _ _) _ _; first | refine we_add ?_ | refine we_sub ?_ | refine we_mul ?_ | refine we_mod ?_ | refine we_fdiv ?_ | refine we_pow ?_)
     | (guard_target = WE _ _ _ (.Compare _ _ _ _) _ _; first | refine we_eq ?_ | refine we_ne ?_ | refine we_lt ?_ | refine we_le ?_ | refine we_gt ?_ | refine we_ge ?_ | refine we_in ?_ | refine we_notin ?_)
     | walk_at "dw_we")
  | (guard_target = WT _ _ _ _ _ _; walk_at "dw_wt")
  | (guard_target = WL _ _ _ _ _ _; first | refine wl_cons ?_ | refine wl_nil ?_)
  | (guard_target = WW _ _ _ _ _ _; first | refine ww_and ?_ | refine ww_or ?_ | refine ww_and1 ?_ | refine ww_or1 ?_)
  | (guard_target = WO _ _ _ _ _ _; first | refine wo_none ?_ | refine wo_some ?_)
  | (guard_target = WF _ _ _ _ _ _; first | refine wf_list ?_ | refine wf_lc ?_)
  | (guard_target = WS _ _ _ _ _ _; first | refine ws_cons ?_ | refine ws_nil ?_)
  | (guard_target = W1 _ _ _ _ _ _; first | walk_at "dw_1" | (guard_target = W1 _ M_law_floor _ (.Assign [(.Name "one" _)] (.List _ _) _) _ _; refine w1_set 0 t_law_floor_one ?_) | (guard_target = W1 _ M_law_floor _ (.Assign [(.Name "one" _)] (.ListComp _ _ _ _) _) _ _; refine w1_lc 0 l_law_floor_one ?_) | ((first | (guard_target = W1 _ _ _ (.Assign [.Name _ _] (.Call _ _ _ _) _) _ _) | (guard_target = W1 _ _ _ (.Assign [.Name _ _] (.BinOp _ _ _ _) _) _ _) | (guard_target = W1 _ _ _ (.Assign [.Name _ _] (.Name _ _) _) _ _) | (guard_target = W1 _ _ _ (.Assign [.Name _ _] (.Subscript _ _ _) _) _ _) | (guard_target = W1 _ _ _ (.Assign [.Name _ _] (.Constant _ _ _) _) _ _) | (guard_target = W1 _ _ _ (.Assign [.Name _ _] (.Compare _ _ _ _) _) _ _) | (guard_target = W1 _ _ _ (.Assign [.Name _ _] (.BoolOp _ _ _) _) _ _) | (guard_target = W1 _ _ _ (.Assign [.Name _ _] (.IfExp _ _ _ _) _) _ _) | (guard_target = W1 _ _ _ (.Assign [.Name _ _] (.Tuple _ _ _) _) _ _) | (guard_target = W1 _ _ _ (.Assign [.Name _ _] (.UnaryOp _ _ _) _) _ _)); first | (guard_target = W1 _ M_law_floor _ (.Assign [(.Name "one" _)] _ _) _ _; refine w1_set 0 t_law_floor_one ?_)) | (guard_target = W1 _ _ _ (.AugAssign _ _ _ _) _ _; first | (guard_target = W1 _ M_law_floor _ (.AugAssign (.Name "one" _) _ _ _) _ _; first | refine w1_addI 0 t_law_floor_one rfl ?_ | refine w1_subI 0 t_law_floor_one rfl ?_)) | (guard_target = W1 _ _ _ (.Assign [.Tuple _ _ _] _ _) _ _; refine w1_asg ?_))
  | (guard_target = WI _ _ _ _ _ _ _; first | refine wi_seq ?_)
  | (guard_target = WG _ _ _ _ _ _ _; first | (guard_target = WG _ M_law_floor _ (.Name "one" _) _ _ _; refine wg_name 0 t_law_floor_one ?_) | refine wg_tup rfl ?_)
  | (guard_target = WH _ _ _ _ _ _ _; first | refine wh_cons ?_ | refine wh_nil ?_)
  | (guard_target = WV _ _ _ _ _ _ _ _; first | refine wv_tup rfl ?_)
  | (guard_target = WVs _ _ _ _ _ _ _ _; first | refine wvs_cons ?_ | refine wvs_nil ?_)
  | walk_at "dw_d"
  | fail)
set_option hygiene false in
local macro_rules | `(tactic| walk_at "st_law") => `(tactic| first
  | (guard_target = WB _ _ _ _ _ _; first | (guard_target = WB _ _ _ (.Name _ _) _ _; first | (guard_target = WB _ M_law _ (.Name "script" _) _ _; first | refine wb_mu 0 r_law_script rfl ?_ | refine wb_of ?_) | (guard_target = WB _ M_law _ (.Name "bag" _) _ _; first | refine wb_mu 1 r_law_bag rfl ?_ | refine wb_of ?_) | (guard_target = WB _ M_law _ (.Name "step" _) _ _; first | refine wb_mu 2 r_law_step rfl ?_ | refine wb_of ?_) | (guard_target = WB _ M_law _ (.Name "one" _) _ _; first | refine wb_mu 3 r_law_one rfl ?_ | refine wb_of ?_) | (guard_target = WB _ M_law _ (.Name "other" _) _ _; first | refine wb_mu 4 r_law_other rfl ?_ | refine wb_of ?_) | (guard_target = WB _ M_law _ (.Name "num" _) _ _; first | refine wb_mu 5 r_law_num rfl ?_ | refine wb_of ?_) | (guard_target = WB _ M_law _ (.Name "den" _) _ _; first | refine wb_mu 6 r_law_den rfl ?_ | refine wb_of ?_) | (guard_target = WB _ M_law _ (.Name "told" _) _ _; first | refine wb_mu 7 r_law_told rfl ?_ | refine wb_of ?_) | (guard_target = WB _ M_law _ (.Name "due" _) _ _; first | refine wb_mu 8 r_law_due rfl ?_ | refine wb_of ?_) | (guard_target = WB _ M_law _ (.Name "near" _) _ _; first | refine wb_mu 9 r_law_near rfl ?_ | refine wb_of ?_) | (guard_target = WB _ M_law _ (.Name "first" _) _ _; first | refine wb_mu 10 r_law_first rfl ?_ | refine wb_of ?_) | (guard_target = WB _ M_law _ (.Name "second" _) _ _; first | refine wb_mu 11 r_law_second rfl ?_ | refine wb_of ?_) | (guard_target = WB _ M_law _ (.Name "frame" _) _ _; first | refine wb_mu 12 r_law_frame rfl ?_ | refine wb_of ?_) | (guard_target = WB _ M_law _ (.Name "many" _) _ _; first | refine wb_mu 13 r_law_many rfl ?_ | refine wb_of ?_) | (guard_target = WB _ M_law _ (.Name "numbers" _) _ _; first | refine wb_mu 14 r_law_numbers rfl ?_ | refine wb_of ?_) | refine wb_of ?_) | refine wb_of ?_)
  | (guard_target = WE _ _ _ _ _ _; first
     | (guard_target = WE _ _ _ (.Name _ _) _ _; first | (guard_target = WE _ M_law _ (.Name "script" _) _ _; refine we_var 0 r_law_script rfl ?_) | (guard_target = WE _ M_law _ (.Name "bag" _) _ _; refine we_var 1 r_law_bag rfl ?_) | (guard_target = WE _ M_law _ (.Name "step" _) _ _; refine we_var 2 r_law_step rfl ?_) | (guard_target = WE _ M_law _ (.Name "one" _) _ _; refine we_var 3 r_law_one rfl ?_) | (guard_target = WE _ M_law _ (.Name "other" _) _ _; refine we_var 4 r_law_other rfl ?_) | (guard_target = WE _ M_law _ (.Name "num" _) _ _; refine we_var 5 r_law_num rfl ?_) | (guard_target = WE _ M_law _ (.Name "den" _) _ _; refine we_var 6 r_law_den rfl ?_) | (guard_target = WE _ M_law _ (.Name "told" _) _ _; refine we_var 7 r_law_told rfl ?_) | (guard_target = WE _ M_law _ (.Name "due" _) _ _; refine we_var 8 r_law_due rfl ?_) | (guard_target = WE _ M_law _ (.Name "near" _) _ _; refine we_var 9 r_law_near rfl ?_) | (guard_target = WE _ M_law _ (.Name "first" _) _ _; refine we_var 10 r_law_first rfl ?_) | (guard_target = WE _ M_law _ (.Name "second" _) _ _; refine we_var 11 r_law_second rfl ?_) | (guard_target = WE _ M_law _ (.Name "frame" _) _ _; refine we_var 12 r_law_frame rfl ?_) | (guard_target = WE _ M_law _ (.Name "many" _) _ _; refine we_var 13 r_law_many rfl ?_) | (guard_target = WE _ M_law _ (.Name "numbers" _) _ _; refine we_var 14 r_law_numbers rfl ?_))
     | (guard_target = WE _ _ _ (.Constant _ _ _) _ _; first | refine we_int ?_ | refine we_str ?_ | refine we_bool ?_ | refine we_none ?_)
     | (guard_target = WE _ _ _ (.Subscript _ _ _) _ _; first | (guard_target = WE _ M_law _ (.Subscript (.Name "bag" _) (.Constant (.int 0) _ _) _) _ _; refine we_bag0 r_law_bag rfl hF fun n hn => ?_) | (guard_target = WE _ M_law _ (.Subscript (.Name "bag" _) (.Constant (.int 1) _ _) _) _ _; refine we_bag1 r_law_bag rfl hF fun n hn hn2 => ?_) | (guard_target = WE _ M_law _ (.Subscript (.Name "bag" _) (.Constant (.int 2) _ _) _) _ _; refine we_bag2 r_law_bag rfl hF fun n hn => ?_) | (guard_target = WE _ M_law _ (.Subscript (.Name "bag" _) (.Constant (.int 3) _ _) _) _ _; refine we_bag3 r_law_bag rfl hF fun ns hln hns => ?_) | refine we_ix ?_ | refine we_slice ?_)
     | (guard_target = WE _ _ _ (.Call (.Name _ _) _ _ _) _ _; first | (guard_target = WE _ M_law _ (.Call (.Name "_law_drawn_fraction" _) _ _ _) _ _; refine we_bag f_law_drawn_fraction g_law__law_drawn_fraction (by omega) r_law_bag rfl hF ?_) | (guard_target = WE _ M_law _ (.Call (.Name "_law_number" _) _ _ _) _ _; refine we_bag f_law_number g_law__law_number (by omega) r_law_bag rfl hF ?_) | (guard_target = WE _ M_law _ (.Call (.Name "plus" _) _ _ _) _ _; first | refine we_call f_plus g_law_plus (by omega) ?_ | refine we_call0 f_plus g_law_plus (by omega) ?_) | (guard_target = WE _ M_law _ (.Call (.Name "minus" _) _ _ _) _ _; first | refine we_call f_minus g_law_minus (by omega) ?_ | refine we_call0 f_minus g_law_minus (by omega) ?_) | (guard_target = WE _ M_law _ (.Call (.Name "times" _) _ _ _) _ _; first | refine we_call f_times g_law_times (by omega) ?_ | refine we_call0 f_times g_law_times (by omega) ?_) | (guard_target = WE _ M_law _ (.Call (.Name "whole" _) _ _ _) _ _; first | refine we_call f_whole g_law_whole (by omega) ?_ | refine we_call0 f_whole g_law_whole (by omega) ?_) | (guard_target = WE _ M_law _ (.Call (.Name "_law_plus" _) _ _ _) _ _; first | refine we_call f_law_plus g_law__law_plus (by omega) ?_ | refine we_call0 f_law_plus g_law__law_plus (by omega) ?_) | (guard_target = WE _ M_law _ (.Call (.Name "_law_minus" _) _ _ _) _ _; first | refine we_call f_law_minus g_law__law_minus (by omega) ?_ | refine we_call0 f_law_minus g_law__law_minus (by omega) ?_) | (guard_target = WE _ M_law _ (.Call (.Name "_law_times" _) _ _ _) _ _; first | refine we_call f_law_times g_law__law_times (by omega) ?_ | refine we_call0 f_law_times g_law__law_times (by omega) ?_) | (guard_target = WE _ M_law _ (.Call (.Name "is_less" _) _ _ _) _ _; first | refine we_call f_is_less g_law_is_less (by omega) ?_ | refine we_call0 f_is_less g_law_is_less (by omega) ?_) | (guard_target = WE _ M_law _ (.Call (.Name "is_at_most" _) _ _ _) _ _; first | refine we_call f_is_at_most g_law_is_at_most (by omega) ?_ | refine we_call0 f_is_at_most g_law_is_at_most (by omega) ?_) | (guard_target = WE _ M_law _ (.Call (.Name "_law_below" _) _ _ _) _ _; first | refine we_call f_law_below g_law__law_below (by omega) ?_ | refine we_call0 f_law_below g_law__law_below (by omega) ?_) | (guard_target = WE _ M_law _ (.Call (.Name "sign_of" _) _ _ _) _ _; first | refine we_call f_sign_of g_law_sign_of (by omega) ?_ | refine we_call0 f_sign_of g_law_sign_of (by omega) ?_) | (guard_target = WE _ M_law _ (.Call (.Name "floor_of" _) _ _ _) _ _; first | refine we_call f_floor_of g_law_floor_of (by omega) ?_ | refine we_call0 f_floor_of g_law_floor_of (by omega) ?_) | (guard_target = WE _ M_law _ (.Call (.Name "fraction" _) _ _ _) _ _; first | refine we_call f_fraction g_law_fraction (by omega) ?_ | refine we_call0 f_fraction g_law_fraction (by omega) ?_) | (guard_target = WE _ M_law _ (.Call (.Name "int" _) _ _ _) _ _; refine we_toint B.int g_law_int ?_) | (guard_target = WE _ M_law _ (.Call (.Name "_law_floor" _) _ _ _) _ _; first | refine we_call f_law_floor g_law__law_floor (by omega) ?_ | refine we_call0 f_law_floor g_law__law_floor (by omega) ?_) | (guard_target = WE _ M_law _ (.Call (.Name "_law_fr" _) _ _ _) _ _; first | refine we_call f_law_fr g_law__law_fr (by omega) ?_ | refine we_call0 f_law_fr g_law__law_fr (by omega) ?_) | (guard_target = WE _ M_law _ (.Call (.Name "_law_some" _) _ _ _) _ _; refine we_bag f_law_some g_law__law_some (by omega) r_law_bag rfl hF ?_) | (guard_target = WE _ M_law _ (.Call (.Name "_law_take" _) _ _ _) _ _; refine we_bag f_law_take g_law__law_take (by omega) r_law_bag rfl hF ?_) | (guard_target = WE _ M_law _ (.Call (.Name "over" _) _ _ _) _ _; first | refine we_call f_over g_law_over (by omega) ?_ | refine we_call0 f_over g_law_over (by omega) ?_) | (guard_target = WE _ M_law _ (.Call (.Name "_law_over" _) _ _ _) _ _; first | refine we_call f_law_over g_law__law_over (by omega) ?_ | refine we_call0 f_law_over g_law__law_over (by omega) ?_) | (guard_target = WE _ M_law _ (.Call (.Name "_law_frame" _) _ _ _) _ _; refine we_bag f_law_frame g_law__law_frame (by omega) r_law_bag rfl hF ?_) | (guard_target = WE _ M_law _ (.Call (.Name "len" _) _ _ _) _ _; refine we_len B.len g_law_len ?_) | (guard_target = WE _ M_law _ (.Call (.Name "_law_stand" _) _ _ _) _ _; refine we_bag f_law_stand g_law__law_stand (by omega) r_law_bag rfl hF ?_) | (guard_target = WE _ M_law _ (.Call (.Name "_law_reading" _) _ _ _) _ _; refine we_bag f_law_reading g_law__law_reading (by omega) r_law_bag rfl hF ?_) | (guard_target = WE _ M_law _ (.Call (.Name "nought" _) _ _ _) _ _; first | refine we_call f_nought g_law_nought (by omega) ?_ | refine we_call0 f_nought g_law_nought (by omega) ?_) | (guard_target = WE _ M_law _ (.Call (.Name "added" _) _ _ _) _ _; first | refine we_call f_added g_law_added (by omega) ?_ | refine we_call0 f_added g_law_added (by omega) ?_) | (guard_target = WE _ M_law _ (.Call (.Name "less" _) _ _ _) _ _; first | refine we_call f_less g_law_less (by omega) ?_ | refine we_call0 f_less g_law_less (by omega) ?_) | (guard_target = WE _ M_law _ (.Call (.Name "multiple" _) _ _ _) _ _; first | refine we_call f_multiple g_law_multiple (by omega) ?_ | refine we_call0 f_multiple g_law_multiple (by omega) ?_) | (guard_target = WE _ M_law _ (.Call (.Name "vector_of" _) _ _ _) _ _; first | refine we_call f_vector_of g_law_vector_of (by omega) ?_ | refine we_call0 f_vector_of g_law_vector_of (by omega) ?_) | (guard_target = WE _ M_law _ (.Call (.Name "_law_added" _) _ _ _) _ _; first | refine we_call f_law_added g_law__law_added (by omega) ?_ | refine we_call0 f_law_added g_law__law_added (by omega) ?_) | (guard_target = WE _ M_law _ (.Call (.Name "_law_less" _) _ _ _) _ _; first | refine we_call f_law_less g_law__law_less (by omega) ?_ | refine we_call0 f_law_less g_law__law_less (by omega) ?_) | (guard_target = WE _ M_law _ (.Call (.Name "_law_multiple" _) _ _ _) _ _; first | refine we_call f_law_multiple g_law__law_multiple (by omega) ?_ | refine we_call0 f_law_multiple g_law__law_multiple (by omega) ?_) | (guard_target = WE _ M_law _ (.Call (.Name "_law_vector" _) _ _ _) _ _; first | refine we_call f_law_vector g_law__law_vector (by omega) ?_ | refine we_call0 f_law_vector g_law__law_vector (by omega) ?_) | (guard_target = WE _ M_law _ (.Call (.Name "_law_alike" _) _ _ _) _ _; refine we_callG f_law_alike hG g_law__law_alike (by omega) ?_))
     | (guard_target = WE _ _ _ (.BinOp _ _ _ _) _ _; first | refine we_add ?_ | refine we_sub ?_ | refine we_mul ?_ | refine we_mod ?_ | refine we_fdiv ?_ | refine we_pow ?_)
     | (guard_target = WE _ _ _ (.Compare _ _ _ _) _ _; first | refine we_eq ?_ | refine we_ne ?_ | refine we_lt ?_ | refine we_le ?_ | refine we_gt ?_ | refine we_ge ?_ | refine we_in ?_ | refine we_notin ?_)
     | walk_at "dw_we")
  | (guard_target = WT _ _ _ _ _ _; walk_at "dw_wt")
  | (guard_target = WL _ _ _ _ _ _; first | refine wl_cons ?_ | refine wl_nil ?_)
  | (guard_target = WW _ _ _ _ _ _; first | refine ww_and ?_ | refine ww_or ?_ | refine ww_and1 ?_ | refine ww_or1 ?_)
  | (guard_target = WO _ _ _ _ _ _; first | refine wo_none ?_ | refine wo_some ?_)
  | (guard_target = WF _ _ _ _ _ _; first | refine wf_list ?_ | refine wf_lc ?_)
  | (guard_target = WS _ _ _ _ _ _; first | refine ws_cons ?_ | refine ws_nil ?_)
  | (guard_target = W1 _ _ _ _ _ _; first | walk_at "dw_1n" | (guard_target = W1 _ _ _ (.Assign [.Tuple [.Name "one" _, .Name "other" _] _ _] (.Tuple _ _ _) _) _ _; refine w1_par 3 4 l_law_one l_law_other (by decide) ?_) | (guard_target = W1 _ _ _ (.Assign [.Tuple [.Name "num" _, .Name "den" _] _ _] (.Tuple _ _ _) _) _ _; refine w1_par 5 6 l_law_num l_law_den (by decide) ?_) | (guard_target = W1 _ _ _ (.Assign [.Tuple [.Name "first" _, .Name "second" _] _ _] (.Tuple _ _ _) _) _ _; refine w1_par 10 11 l_law_first l_law_second (by decide) ?_) | (guard_target = W1 _ _ _ (.Assign [.Tuple [.Name "first" _, .Name "second" _, .Name "numbers" _] _ _] (.Tuple _ _ _) _) _ _; refine w1_par3 10 11 14 l_law_first l_law_second l_law_numbers (by decide) (by decide) (by decide) ?_) | (guard_target = W1 _ M_law _ (.Assign [(.Name "script" _)] (.List _ _) _) _ _; refine w1_set 0 t_law_script ?_) | (guard_target = W1 _ M_law _ (.Assign [(.Name "script" _)] (.ListComp _ _ _ _) _) _ _; refine w1_lc 0 l_law_script ?_) | (guard_target = W1 _ M_law _ (.Assign [(.Name "bag" _)] (.List _ _) _) _ _; refine w1_set 1 t_law_bag ?_) | (guard_target = W1 _ M_law _ (.Assign [(.Name "bag" _)] (.ListComp _ _ _ _) _) _ _; refine w1_lc 1 l_law_bag ?_) | (guard_target = W1 _ M_law _ (.Assign [(.Name "step" _)] (.List _ _) _) _ _; refine w1_set 2 t_law_step ?_) | (guard_target = W1 _ M_law _ (.Assign [(.Name "step" _)] (.ListComp _ _ _ _) _) _ _; refine w1_lc 2 l_law_step ?_) | (guard_target = W1 _ M_law _ (.Assign [(.Name "one" _)] (.List _ _) _) _ _; refine w1_set 3 t_law_one ?_) | (guard_target = W1 _ M_law _ (.Assign [(.Name "one" _)] (.ListComp _ _ _ _) _) _ _; refine w1_lc 3 l_law_one ?_) | (guard_target = W1 _ M_law _ (.Assign [(.Name "other" _)] (.List _ _) _) _ _; refine w1_set 4 t_law_other ?_) | (guard_target = W1 _ M_law _ (.Assign [(.Name "other" _)] (.ListComp _ _ _ _) _) _ _; refine w1_lc 4 l_law_other ?_) | (guard_target = W1 _ M_law _ (.Assign [(.Name "num" _)] (.List _ _) _) _ _; refine w1_set 5 t_law_num ?_) | (guard_target = W1 _ M_law _ (.Assign [(.Name "num" _)] (.ListComp _ _ _ _) _) _ _; refine w1_lc 5 l_law_num ?_) | (guard_target = W1 _ M_law _ (.Assign [(.Name "den" _)] (.List _ _) _) _ _; refine w1_set 6 t_law_den ?_) | (guard_target = W1 _ M_law _ (.Assign [(.Name "den" _)] (.ListComp _ _ _ _) _) _ _; refine w1_lc 6 l_law_den ?_) | (guard_target = W1 _ M_law _ (.Expr (.Call (.Attribute (.Name "told" _) "append" _) _ _ _) _) _ _; refine w1_append 7 r_law_told rfl ?_) | (guard_target = W1 _ M_law _ (.Expr (.Call (.Attribute (.Name "told" _) "extend" _) _ _ _) _) _ _; refine w1_extend 7 r_law_told rfl ?_) | (guard_target = W1 _ M_law _ (.Expr (.Call (.Attribute (.Name "told" _) "insert" _) _ _ _) _) _ _; refine w1_insert 7 r_law_told rfl ?_) | (guard_target = W1 _ M_law _ (.Assign [(.Name "told" _)] (.List _ _) _) _ _; refine w1_own 7 t_law_told (wf_list ?_)) | (guard_target = W1 _ M_law _ (.Assign [(.Name "told" _)] (.ListComp _ _ _ _) _) _ _; refine w1_lcOwn 7 l_law_told ?_) | (guard_target = W1 _ M_law _ (.Expr (.Call (.Attribute (.Name "due" _) "append" _) _ _ _) _) _ _; refine w1_append 8 r_law_due rfl ?_) | (guard_target = W1 _ M_law _ (.Expr (.Call (.Attribute (.Name "due" _) "extend" _) _ _ _) _) _ _; refine w1_extend 8 r_law_due rfl ?_) | (guard_target = W1 _ M_law _ (.Expr (.Call (.Attribute (.Name "due" _) "insert" _) _ _ _) _) _ _; refine w1_insert 8 r_law_due rfl ?_) | (guard_target = W1 _ M_law _ (.Assign [(.Name "due" _)] (.List _ _) _) _ _; refine w1_own 8 t_law_due (wf_list ?_)) | (guard_target = W1 _ M_law _ (.Assign [(.Name "due" _)] (.ListComp _ _ _ _) _) _ _; refine w1_lcOwn 8 l_law_due ?_) | (guard_target = W1 _ M_law _ (.Assign [(.Name "near" _)] (.List _ _) _) _ _; refine w1_set 9 t_law_near ?_) | (guard_target = W1 _ M_law _ (.Assign [(.Name "near" _)] (.ListComp _ _ _ _) _) _ _; refine w1_lc 9 l_law_near ?_) | (guard_target = W1 _ M_law _ (.Assign [(.Name "first" _)] (.List _ _) _) _ _; refine w1_set 10 t_law_first ?_) | (guard_target = W1 _ M_law _ (.Assign [(.Name "first" _)] (.ListComp _ _ _ _) _) _ _; refine w1_lc 10 l_law_first ?_) | (guard_target = W1 _ M_law _ (.Assign [(.Name "second" _)] (.List _ _) _) _ _; refine w1_set 11 t_law_second ?_) | (guard_target = W1 _ M_law _ (.Assign [(.Name "second" _)] (.ListComp _ _ _ _) _) _ _; refine w1_lc 11 l_law_second ?_) | (guard_target = W1 _ M_law _ (.Assign [(.Name "frame" _)] (.List _ _) _) _ _; refine w1_set 12 t_law_frame ?_) | (guard_target = W1 _ M_law _ (.Assign [(.Name "frame" _)] (.ListComp _ _ _ _) _) _ _; refine w1_lc 12 l_law_frame ?_) | (guard_target = W1 _ M_law _ (.Assign [(.Name "many" _)] (.List _ _) _) _ _; refine w1_set 13 t_law_many ?_) | (guard_target = W1 _ M_law _ (.Assign [(.Name "many" _)] (.ListComp _ _ _ _) _) _ _; refine w1_lc 13 l_law_many ?_) | (guard_target = W1 _ M_law _ (.Assign [(.Name "numbers" _)] (.List _ _) _) _ _; refine w1_set 14 t_law_numbers ?_) | (guard_target = W1 _ M_law _ (.Assign [(.Name "numbers" _)] (.ListComp _ _ _ _) _) _ _; refine w1_lc 14 l_law_numbers ?_) | (guard_target = W1 _ _ _ (.Assign [(.Subscript (.Name "bag" _) (.Constant (.int 0) _ _) _)] _ _) _ _; refine w1_bag0 r_law_bag rfl hF ?_) | (guard_target = W1 _ _ _ (.Assign [(.Subscript (.Name "bag" _) (.Constant (.int 1) _ _) _)] _ _) _ _; refine w1_bag1 r_law_bag rfl hF ?_) | (guard_target = W1 _ _ _ (.AugAssign (.Subscript (.Name "bag" _) (.Constant (.int 2) _ _) _) _ _ _) _ _; refine w1_bag2 r_law_bag rfl hF ?_) | ((first | (guard_target = W1 _ _ _ (.Assign [.Name _ _] (.Call _ _ _ _) _) _ _) | (guard_target = W1 _ _ _ (.Assign [.Name _ _] (.BinOp _ _ _ _) _) _ _) | (guard_target = W1 _ _ _ (.Assign [.Name _ _] (.Name _ _) _) _ _) | (guard_target = W1 _ _ _ (.Assign [.Name _ _] (.Subscript _ _ _) _) _ _) | (guard_target = W1 _ _ _ (.Assign [.Name _ _] (.Constant _ _ _) _) _ _) | (guard_target = W1 _ _ _ (.Assign [.Name _ _] (.Compare _ _ _ _) _) _ _) | (guard_target = W1 _ _ _ (.Assign [.Name _ _] (.BoolOp _ _ _) _) _ _) | (guard_target = W1 _ _ _ (.Assign [.Name _ _] (.IfExp _ _ _ _) _) _ _) | (guard_target = W1 _ _ _ (.Assign [.Name _ _] (.Tuple _ _ _) _) _ _) | (guard_target = W1 _ _ _ (.Assign [.Name _ _] (.UnaryOp _ _ _) _) _ _)); first | (guard_target = W1 _ M_law _ (.Assign [(.Name "script" _)] _ _) _ _; refine w1_set 0 t_law_script ?_) | (guard_target = W1 _ M_law _ (.Assign [(.Name "bag" _)] _ _) _ _; refine w1_set 1 t_law_bag ?_) | (guard_target = W1 _ M_law _ (.Assign [(.Name "step" _)] _ _) _ _; refine w1_set 2 t_law_step ?_) | (guard_target = W1 _ M_law _ (.Assign [(.Name "one" _)] _ _) _ _; refine w1_set 3 t_law_one ?_) | (guard_target = W1 _ M_law _ (.Assign [(.Name "other" _)] _ _) _ _; refine w1_set 4 t_law_other ?_) | (guard_target = W1 _ M_law _ (.Assign [(.Name "num" _)] _ _) _ _; refine w1_set 5 t_law_num ?_) | (guard_target = W1 _ M_law _ (.Assign [(.Name "den" _)] _ _) _ _; refine w1_set 6 t_law_den ?_) | (guard_target = W1 _ M_law _ (.Assign [(.Name "told" _)] _ _) _ _; refine w1_set 7 t_law_told ?_) | (guard_target = W1 _ M_law _ (.Assign [(.Name "due" _)] _ _) _ _; refine w1_set 8 t_law_due ?_) | (guard_target = W1 _ M_law _ (.Assign [(.Name "near" _)] _ _) _ _; refine w1_set 9 t_law_near ?_) | (guard_target = W1 _ M_law _ (.Assign [(.Name "first" _)] _ _) _ _; refine w1_set 10 t_law_first ?_) | (guard_target = W1 _ M_law _ (.Assign [(.Name "second" _)] _ _) _ _; refine w1_set 11 t_law_second ?_) | (guard_target = W1 _ M_law _ (.Assign [(.Name "frame" _)] _ _) _ _; refine w1_set 12 t_law_frame ?_) | (guard_target = W1 _ M_law _ (.Assign [(.Name "many" _)] _ _) _ _; refine w1_set 13 t_law_many ?_) | (guard_target = W1 _ M_law _ (.Assign [(.Name "numbers" _)] _ _) _ _; refine w1_set 14 t_law_numbers ?_)) | (guard_target = W1 _ _ _ (.AugAssign _ _ _ _) _ _; first | (guard_target = W1 _ M_law _ (.AugAssign (.Name "script" _) _ _ _) _ _; first | refine w1_addI 0 t_law_script rfl ?_ | refine w1_subI 0 t_law_script rfl ?_) | (guard_target = W1 _ M_law _ (.AugAssign (.Name "bag" _) _ _ _) _ _; first | refine w1_addI 1 t_law_bag rfl ?_ | refine w1_subI 1 t_law_bag rfl ?_) | (guard_target = W1 _ M_law _ (.AugAssign (.Name "step" _) _ _ _) _ _; first | refine w1_addI 2 t_law_step rfl ?_ | refine w1_subI 2 t_law_step rfl ?_) | (guard_target = W1 _ M_law _ (.AugAssign (.Name "one" _) _ _ _) _ _; first | refine w1_addI 3 t_law_one rfl ?_ | refine w1_subI 3 t_law_one rfl ?_) | (guard_target = W1 _ M_law _ (.AugAssign (.Name "other" _) _ _ _) _ _; first | refine w1_addI 4 t_law_other rfl ?_ | refine w1_subI 4 t_law_other rfl ?_) | (guard_target = W1 _ M_law _ (.AugAssign (.Name "num" _) _ _ _) _ _; first | refine w1_addI 5 t_law_num rfl ?_ | refine w1_subI 5 t_law_num rfl ?_) | (guard_target = W1 _ M_law _ (.AugAssign (.Name "den" _) _ _ _) _ _; first | refine w1_addI 6 t_law_den rfl ?_ | refine w1_subI 6 t_law_den rfl ?_) | (guard_target = W1 _ M_law _ (.AugAssign (.Name "told" _) _ _ _) _ _; first | refine w1_addI 7 t_law_told rfl ?_ | refine w1_subI 7 t_law_told rfl ?_) | (guard_target = W1 _ M_law _ (.AugAssign (.Name "due" _) _ _ _) _ _; first | refine w1_addI 8 t_law_due rfl ?_ | refine w1_subI 8 t_law_due rfl ?_) | (guard_target = W1 _ M_law _ (.AugAssign (.Name "near" _) _ _ _) _ _; first | refine w1_addI 9 t_law_near rfl ?_ | refine w1_subI 9 t_law_near rfl ?_) | (guard_target = W1 _ M_law _ (.AugAssign (.Name "first" _) _ _ _) _ _; first | refine w1_addI 10 t_law_first rfl ?_ | refine w1_subI 10 t_law_first rfl ?_) | (guard_target = W1 _ M_law _ (.AugAssign (.Name "second" _) _ _ _) _ _; first | refine w1_addI 11 t_law_second rfl ?_ | refine w1_subI 11 t_law_second rfl ?_) | (guard_target = W1 _ M_law _ (.AugAssign (.Name "frame" _) _ _ _) _ _; first | refine w1_addI 12 t_law_frame rfl ?_ | refine w1_subI 12 t_law_frame rfl ?_) | (guard_target = W1 _ M_law _ (.AugAssign (.Name "many" _) _ _ _) _ _; first | refine w1_addI 13 t_law_many rfl ?_ | refine w1_subI 13 t_law_many rfl ?_) | (guard_target = W1 _ M_law _ (.AugAssign (.Name "numbers" _) _ _ _) _ _; first | refine w1_addI 14 t_law_numbers rfl ?_ | refine w1_subI 14 t_law_numbers rfl ?_)) | (guard_target = W1 _ _ _ (.Assign [.Tuple _ _ _] _ _) _ _; refine w1_asg ?_))
  | (guard_target = WI _ _ _ _ _ _ _; first | refine wi_range B.range g_law_range ?_ | refine wi_range2 B.range g_law_range ?_ | refine wi_seq ?_)
  | (guard_target = WG _ _ _ _ _ _ _; first | (guard_target = WG _ M_law _ (.Name "script" _) _ _ _; refine wg_name 0 t_law_script ?_) | (guard_target = WG _ M_law _ (.Name "bag" _) _ _ _; refine wg_name 1 t_law_bag ?_) | (guard_target = WG _ M_law _ (.Name "step" _) _ _ _; refine wg_name 2 t_law_step ?_) | (guard_target = WG _ M_law _ (.Name "one" _) _ _ _; refine wg_name 3 t_law_one ?_) | (guard_target = WG _ M_law _ (.Name "other" _) _ _ _; refine wg_name 4 t_law_other ?_) | (guard_target = WG _ M_law _ (.Name "num" _) _ _ _; refine wg_name 5 t_law_num ?_) | (guard_target = WG _ M_law _ (.Name "den" _) _ _ _; refine wg_name 6 t_law_den ?_) | (guard_target = WG _ M_law _ (.Name "told" _) _ _ _; refine wg_name 7 t_law_told ?_) | (guard_target = WG _ M_law _ (.Name "due" _) _ _ _; refine wg_name 8 t_law_due ?_) | (guard_target = WG _ M_law _ (.Name "near" _) _ _ _; refine wg_name 9 t_law_near ?_) | (guard_target = WG _ M_law _ (.Name "first" _) _ _ _; refine wg_name 10 t_law_first ?_) | (guard_target = WG _ M_law _ (.Name "second" _) _ _ _; refine wg_name 11 t_law_second ?_) | (guard_target = WG _ M_law _ (.Name "frame" _) _ _ _; refine wg_name 12 t_law_frame ?_) | (guard_target = WG _ M_law _ (.Name "many" _) _ _ _; refine wg_name 13 t_law_many ?_) | (guard_target = WG _ M_law _ (.Name "numbers" _) _ _ _; refine wg_name 14 t_law_numbers ?_) | refine wg_tup rfl ?_)
  | (guard_target = WH _ _ _ _ _ _ _; first | refine wh_cons ?_ | refine wh_nil ?_)
  | (guard_target = WV _ _ _ _ _ _ _ _; first | refine wv_tup rfl ?_)
  | (guard_target = WVs _ _ _ _ _ _ _ _; first | refine wvs_cons ?_ | refine wvs_nil ?_)
  | walk_at "dw_d"
  | fail)

theorem p_fraction {G : Gd} (B : Blt G) (hg : G.grd = false) (hk : G.k = 0) (df : Df G "fraction" s_fraction ["num", "den"]) : Fn G (G.k + 1) "fraction" ["num", "den"] (spD G.K 2 sp_fraction) := by
  refine fn_pure df hg sc_fraction ok_fraction rfl fun F hF ds Q0 hl hs => ?_
  obtain ⟨n, d, rfl, hd, hq⟩ := hs
  have hv := sgcd_ok (n := n) hd
  have hq' : Q0 (.tuple [.int (n.fdiv (sgcd n d)), .int (d.fdiv (sgcd n d))]) := by rw [sgcd_num hd.1, sgcd_den hd.1]; exact hq
  unfold sgcd at hv hq'
  refine ws_cons (w1_set 2 t_fraction_shared ?_)
  repeat' (walk_at "st_fraction")
  all_goals (first | (rw [if_pos h] at hv hq') | (rw [if_neg h] at hv hq'))
  all_goals first | exact hv | first | exact hq' | exact hq
theorem p_whole {G : Gd} (B : Blt G) (hg : G.grd = false) (hk : G.k = 0) (df : Df G "whole" s_whole ["integer"]) : Fn G (G.k + 1) "whole" ["integer"] (spD G.K 1 sp_whole) := by
  refine fn_pure df hg sc_whole ok_whole rfl fun F hF ds Q0 hl hs => ?_
  obtain ⟨n, rfl, hq⟩ := hs
  repeat' (walk_at "st_whole")
  exact hq
theorem p_plus {G : Gd} (B : Blt G) (hg : G.grd = false) (hk : G.k = 1) (f_fraction : Fn G 1 "fraction" ["num", "den"] (spD G.K 2 sp_fraction)) (df : Df G "plus" s_plus ["one", "other"]) : Fn G (G.k + 1) "plus" ["one", "other"] (spD G.K 2 (spR2 yes2 fun p q => fr (p + q))) := by
  refine fn_pure df hg sc_plus ok_plus rfl fun F hF ds Q0 hl hs => ?_
  obtain ⟨p, q, N, rfl, hN, hp, hq, -, h⟩ := hs
  repeat' (walk_at "st_plus")
  all_goals first | exact NB.mulOk hp.1 hq.2 (by omega) (by omega) | exact NB.mulOk hq.1 hp.2 (by omega) (by omega) | exact NB.mulOk hp.2 hq.2 (by omega) (by omega) | skip
  refine ⟨rfl, _, _, rfl, ((hp.2.mul hq.2).up (Nat.le_succ _)).div (by omega) (by omega) (rat_mulNe p q), ?_⟩
  rw [← rat_add]; exact h
theorem p_minus {G : Gd} (B : Blt G) (hg : G.grd = false) (hk : G.k = 1) (f_fraction : Fn G 1 "fraction" ["num", "den"] (spD G.K 2 sp_fraction)) (df : Df G "minus" s_minus ["one", "other"]) : Fn G (G.k + 1) "minus" ["one", "other"] (spD G.K 2 (spR2 yes2 fun p q => fr (p - q))) := by
  refine fn_pure df hg sc_minus ok_minus rfl fun F hF ds Q0 hl hs => ?_
  obtain ⟨p, q, N, rfl, hN, hp, hq, -, h⟩ := hs
  repeat' (walk_at "st_minus")
  all_goals first | exact NB.mulOk hp.1 hq.2 (by omega) (by omega) | exact NB.mulOk hq.1 hp.2 (by omega) (by omega) | exact NB.mulOk hp.2 hq.2 (by omega) (by omega) | skip
  refine ⟨rfl, _, _, rfl, ((hp.2.mul hq.2).up (Nat.le_succ _)).div (by omega) (by omega) (rat_mulNe p q), ?_⟩
  rw [← rat_sub]; exact h
theorem p_times {G : Gd} (B : Blt G) (hg : G.grd = false) (hk : G.k = 1) (f_fraction : Fn G 1 "fraction" ["num", "den"] (spD G.K 2 sp_fraction)) (df : Df G "times" s_times ["one", "other"]) : Fn G (G.k + 1) "times" ["one", "other"] (spD G.K 2 (spR2 yes2 fun p q => fr (p * q))) := by
  refine fn_pure df hg sc_times ok_times rfl fun F hF ds Q0 hl hs => ?_
  obtain ⟨p, q, N, rfl, hN, hp, hq, -, h⟩ := hs
  repeat' (walk_at "st_times")
  all_goals first | exact NB.mulOk hp.1 hq.1 (by omega) (by omega) | exact NB.mulOk hp.2 hq.2 (by omega) (by omega) | skip
  refine ⟨rfl, _, _, rfl, ((hp.2.mul hq.2).up (Nat.le_succ _)).div (by omega) (by omega) (rat_mulNe p q), ?_⟩
  rw [← rat_mul]; exact h
theorem p_over {G : Gd} (B : Blt G) (hg : G.grd = false) (hk : G.k = 1) (f_fraction : Fn G 1 "fraction" ["num", "den"] (spD G.K 2 sp_fraction)) (df : Df G "over" s_over ["one", "other"]) : Fn G (G.k + 1) "over" ["one", "other"] (spD G.K 2 (spR2 (fun _ q => q ≠ 0) fun p q => fr (p / q))) := by
  refine fn_pure df hg sc_over ok_over rfl fun F hF ds Q0 hl hs => ?_
  obtain ⟨p, q, N, rfl, hN, hp, hq, hn, h⟩ := hs
  repeat' (walk_at "st_over")
  all_goals first | exact NB.mulOk hp.1 hq.2 (by omega) (by omega) | exact NB.mulOk hp.2 hq.1 (by omega) (by omega) | skip
  refine ⟨rfl, _, _, rfl, ((hp.2.mul hq.1).up (Nat.le_succ _)).div (by omega) (by omega) (Int.mul_ne_zero (den_ne p) (num_ne hn)), ?_⟩
  rw [← rat_div]; exact h
theorem p_is_less {G : Gd} (B : Blt G) (hg : G.grd = false) (hk : G.k = 0) (df : Df G "is_less" s_is_less ["one", "other"]) : Fn G (G.k + 1) "is_less" ["one", "other"] (spD G.K 2 (spR2 yes2 fun p q => .bool (decide (p < q)))) := by
  refine fn_pure df hg sc_is_less ok_is_less rfl fun F hF ds Q0 hl hs => ?_
  obtain ⟨p, q, N, rfl, hN, hp, hq, -, h⟩ := hs
  repeat' (walk_at "st_is_less")
  all_goals first | exact NB.mulOk hp.1 hq.2 (by omega) (by omega) | exact NB.mulOk hq.1 hp.2 (by omega) (by omega) | skip
  rw [rat_lt]; exact h
theorem p_is_at_most {G : Gd} (B : Blt G) (hg : G.grd = false) (hk : G.k = 0) (df : Df G "is_at_most" s_is_at_most ["one", "other"]) : Fn G (G.k + 1) "is_at_most" ["one", "other"] (spD G.K 2 (spR2 yes2 fun p q => .bool (decide (p ≤ q)))) := by
  refine fn_pure df hg sc_is_at_most ok_is_at_most rfl fun F hF ds Q0 hl hs => ?_
  obtain ⟨p, q, N, rfl, hN, hp, hq, -, h⟩ := hs
  repeat' (walk_at "st_is_at_most")
  all_goals first | exact NB.mulOk hp.1 hq.2 (by omega) (by omega) | exact NB.mulOk hq.1 hp.2 (by omega) (by omega) | skip
  rw [rat_le]; exact h
theorem p_sign_of {G : Gd} (B : Blt G) (hg : G.grd = false) (hk : G.k = 0) (df : Df G "sign_of" s_sign_of ["one"]) : Fn G (G.k + 1) "sign_of" ["one"] (spD G.K 1 (spR1 fun p => .int p.num.sign)) := by
  refine fn_pure df hg sc_sign_of ok_sign_of rfl fun F hF ds Q0 hl hs => ?_
  obtain ⟨p, N, rfl, hN, hp, h⟩ := hs
  repeat' (walk_at "st_sign_of")
  refine Eq.mp (congrArg (fun z => Q0 (.int z)) ?_) h
  exact (sign_eq _).symm
theorem p_floor_of {G : Gd} (B : Blt G) (hg : G.grd = false) (hk : G.k = 0) (df : Df G "floor_of" s_floor_of ["one"]) : Fn G (G.k + 1) "floor_of" ["one"] (spD G.K 1 (spR1 fun p => .int p.floor)) := by
  refine fn_pure df hg sc_floor_of ok_floor_of rfl fun F hF ds Q0 hl hs => ?_
  obtain ⟨p, N, rfl, hN, hp, h⟩ := hs
  repeat' (walk_at "st_floor_of")
  · exact hp.den hN
  · rw [floor_eq]; exact h

theorem p_nought {G : Gd} (B : Blt G) (hg : G.grd = false) (hk : G.k = 0) (df : Df G "nought" s_nought ["frame"]) : Fn G (G.k + 1) "nought" ["frame"] (spD G.K 1 sp_nought) := by
  refine fn_pure df hg sc_nought ok_nought rfl fun F hF ds Q0 hl hs => ?_
  obtain ⟨cells, rest, rfl, h0, h1, h⟩ := hs
  have hl0 : 0 < cells.length := List.length_pos_iff.mpr h0
  have he : (List.replicate (Int.toNat (cells.length : Int)) [PyData.tuple [.int 0, .int 1]]).flatten = (List.replicate cells.length (0 : Rat)).map fr := by
    rw [Int.toNat_natCast, List.map_replicate, List.flatten_replicate_singleton]; rfl
  repeat' (walk_at "st_nought")
  all_goals first | exact List.cons_ne_nil _ _ | (rw [he]; exact h) | omega | (simp only [List.length_cons, List.length_nil]; omega)
theorem p_vector_of {G : Gd} (B : Blt G) (hg : G.grd = false) (hk : G.k = 0) (df : Df G "vector_of" s_vector_of ["numbers"]) : Fn G (G.k + 1) "vector_of" ["numbers"] (spD G.K 1 sp_vector) := by
  refine fn_pure df hg sc_vector_of ok_vector_of rfl fun F hF ds Q0 hl hs => ?_
  obtain ⟨ns, hd, h⟩ := hs
  have he : ns.map (fun n => PyData.tuple [.int n, .int 1]) = (ns.map (Int.cast : Int → Rat)).map fr := by
    rw [List.map_map]; rfl
  rcases hd with rfl | rfl
  · repeat' (walk_at "st_vector_of")
    refine wc_typ ns PyData.int (fun n => PyData.tuple [.int n, .int 1]) kd_vector_of_0 gl_vector_of_0 own_vector_of_0 ?_ ?_
    · decide +kernel
    repeat' (walk_at "st_vector_of")
    refine ⟨rfl, fun n hn => ?_, ?_⟩
    · repeat' (walk_at "st_vector_of")
      all_goals rfl
    · repeat' (walk_at "st_vector_of")
      rw [he]; exact h
  · repeat' (walk_at "st_vector_of")
    refine wc_typ ns PyData.int (fun n => PyData.tuple [.int n, .int 1]) kd_vector_of_0 gl_vector_of_0 own_vector_of_0 ?_ ?_
    · decide +kernel
    repeat' (walk_at "st_vector_of")
    refine ⟨rfl, fun n hn => ?_, ?_⟩
    · repeat' (walk_at "st_vector_of")
      all_goals rfl
    · repeat' (walk_at "st_vector_of")
      rw [he]; exact h

theorem p_added {G : Gd} (B : Blt G) (hg : G.grd = false) (hk : G.k = 2) (f_plus : Fn G 2 "plus" ["one", "other"] (spD G.K 2 (spR2 yes2 fun p q => fr (p + q)))) (df : Df G "added" s_added ["one", "other"]) : Fn G (G.k + 1) "added" ["one", "other"] (spD G.K 2 (spV2 fun p q => p + q)) := by
  refine fn_pure df hg sc_added ok_added rfl fun F hF ds Q0 hl hs => ?_
  obtain ⟨ps, qs, N, rfl, hN, hp, hq, h⟩ := hs
  repeat' (walk_at "st_added")
  refine wc_typ (ps.zip qs) (fun p => .tuple [fr p.1, fr p.2]) (fun p => fr (p.1 + p.2)) kd_added_0 gl_added_0 own_added_0 ?_ ?_
  · decide +kernel
  repeat' (walk_at "st_added")
  refine ⟨zipD_map fr fr ps qs, fun p hm => ?_, ?_⟩
  · obtain ⟨m1, m2⟩ := zip_mem hm
    refine wv_tup rfl ?_
    repeat' (walk_at "st_added")
    exact ⟨rfl, _, _, N, rfl, hN, hp _ m1, hq _ m2, trivial, rfl⟩
  · repeat' (walk_at "st_added")
    rw [vec_zip (fun p q => p + q)]; exact h
theorem p_less {G : Gd} (B : Blt G) (hg : G.grd = false) (hk : G.k = 2) (f_minus : Fn G 2 "minus" ["one", "other"] (spD G.K 2 (spR2 yes2 fun p q => fr (p - q)))) (df : Df G "less" s_less ["one", "other"]) : Fn G (G.k + 1) "less" ["one", "other"] (spD G.K 2 (spV2 fun p q => p - q)) := by
  refine fn_pure df hg sc_less ok_less rfl fun F hF ds Q0 hl hs => ?_
  obtain ⟨ps, qs, N, rfl, hN, hp, hq, h⟩ := hs
  repeat' (walk_at "st_less")
  refine wc_typ (ps.zip qs) (fun p => .tuple [fr p.1, fr p.2]) (fun p => fr (p.1 - p.2)) kd_less_0 gl_less_0 own_less_0 ?_ ?_
  · decide +kernel
  repeat' (walk_at "st_less")
  refine ⟨zipD_map fr fr ps qs, fun p hm => ?_, ?_⟩
  · obtain ⟨m1, m2⟩ := zip_mem hm
    refine wv_tup rfl ?_
    repeat' (walk_at "st_less")
    exact ⟨rfl, _, _, N, rfl, hN, hp _ m1, hq _ m2, trivial, rfl⟩
  · repeat' (walk_at "st_less")
    rw [vec_zip (fun p q => p - q)]; exact h
theorem p_multiple {G : Gd} (B : Blt G) (hg : G.grd = false) (hk : G.k = 2) (f_times : Fn G 2 "times" ["one", "other"] (spD G.K 2 (spR2 yes2 fun p q => fr (p * q)))) (df : Df G "multiple" s_multiple ["share", "vector"]) : Fn G (G.k + 1) "multiple" ["share", "vector"] (spD G.K 2 sp_multiple) := by
  refine fn_pure df hg sc_multiple ok_multiple rfl fun F hF ds Q0 hl hs => ?_
  obtain ⟨a, ps, N, rfl, hN, ha, hp, h⟩ := hs
  repeat' (walk_at "st_multiple")
  refine wc_typ ps fr (fun p => fr (a * p)) kd_multiple_0 gl_multiple_0 own_multiple_0 ?_ ?_
  · decide +kernel
  repeat' (walk_at "st_multiple")
  refine ⟨rfl, fun p hm => ?_, ?_⟩
  · repeat' (walk_at "st_multiple")
    exact ⟨rfl, _, _, N, rfl, hN, ha, hp _ hm, trivial, rfl⟩
  · repeat' (walk_at "st_multiple")
    rw [show ps.map (fun p => fr (a * p)) = (ps.map fun p => a * p).map fr by rw [List.map_map]; rfl]; exact h

theorem p_law_gcd {G : Gd} (B : Blt G) (hg : G.grd = false) (hk : G.k = 0) (df : Df G "_law_gcd" s_law_gcd ["one", "other"]) : Fn G (G.k + 1) "_law_gcd" ["one", "other"] (spD G.K 2 sp_lgcd) := by
  refine fn_pure df hg sc_law_gcd ok_law_gcd rfl fun F hF ds Q0 hl hs => ?_
  obtain ⟨a, b, rfl, ha, hb, hq⟩ := hs
  refine ws_cons (w1_while (fun m Γ => ∃ x y : Int, 0 ≤ x ∧ 0 ≤ y ∧ m = y.toNat ∧ Γ = [Bd.im (.int x), Bd.im (.int y)] ∧ Nat.gcd x.natAbs y.natAbs = Nat.gcd a.natAbs b.natAbs) _ ⟨a, b, ha, hb, rfl, rfl, rfl⟩ ?_)
  rintro m Γ ⟨x, y, hx, hy, rfl, rfl, hg'⟩
  repeat' (walk_at "st_law_gcd")
  · exact h
  · have h1 := Int.emod_lt_of_pos x h
    have h2 := Int.emod_nonneg x (b := y) (by omega)
    exact ⟨_, by omega, _, _, hy, h2, rfl, rfl, (gcd_step hx h).trans hg'⟩
  · have : y = 0 := by omega
    subst this
    rw [show Int.natAbs 0 = 0 from rfl, Nat.gcd_zero_right] at hg'
    rw [← hg', Int.natAbs_of_nonneg hx] at hq
    exact hq
theorem p_law_fr {G : Gd} (B : Blt G) (hg : G.grd = false) (hk : G.k = 1) (f_law_gcd : Fn G 1 "_law_gcd" ["one", "other"] (spD G.K 2 sp_lgcd)) (df : Df G "_law_fr" s_law_fr ["num", "den"]) : Fn G (G.k + 1) "_law_fr" ["num", "den"] (spD G.K 2 sp_fraction) := by
  refine fn_pure df hg sc_law_fr ok_law_fr rfl fun F hF ds Q0 hl hs => ?_
  obtain ⟨n, d, rfl, hd, hq⟩ := hs
  repeat' (walk_at "st_law_fr")
  · have hd' : 0 < -d := by omega
    refine ⟨rfl, _, _, rfl, by omega, by omega, ?_⟩
    have hf := frac_pos (n := -n) hd'
    have hv := sgcd_ok (n := -n) (d := -d) ⟨by omega, by rw [Int.natAbs_neg]; exact hd.2⟩
    unfold sgcd at hv
    rw [if_pos hd'] at hv
    simp only [Int.natAbs_natCast]
    repeat' (walk_at "st_law_fr")
    · exact hv
    · exact hv
    · rw [hf.1, hf.2, Rat.neg_divInt_neg]; exact hq
  · have hd' : 0 < d := by have := hd.1; omega
    refine ⟨rfl, _, _, rfl, by omega, by omega, ?_⟩
    have hf := frac_pos (n := n) hd'
    have hv := sgcd_ok (n := n) hd
    unfold sgcd at hv
    rw [if_pos hd'] at hv
    simp only [Int.natAbs_natCast]
    repeat' (walk_at "st_law_fr")
    · exact hv
    · exact hv
    · rw [hf.1, hf.2]; exact hq
theorem p_law_floor {G : Gd} (B : Blt G) (hg : G.grd = false) (hk : G.k = 0) (df : Df G "_law_floor" s_law_floor ["one"]) : Fn G (G.k + 1) "_law_floor" ["one"] (spD G.K 1 (spR1 fun p => .int p.floor)) := by
  refine fn_pure df hg sc_law_floor ok_law_floor rfl fun F hF ds Q0 hl hs => ?_
  obtain ⟨p, N, rfl, hN, hp, hq⟩ := hs
  repeat' (walk_at "st_law_floor")
  all_goals first | exact hp.den hN | skip
  · rw [floor_eq]; exact hq
  · rw [floor_neg (by have := p.den_nz; omega), ← Rat.floor_def]; exact hq
theorem p_law_plus {G : Gd} (B : Blt G) (hg : G.grd = false) (hk : G.k = 2) (f_law_fr : Fn G 2 "_law_fr" ["num", "den"] (spD G.K 2 sp_fraction)) (df : Df G "_law_plus" s_law_plus ["one", "other"]) : Fn G (G.k + 1) "_law_plus" ["one", "other"] (spD G.K 2 (spR2 yes2 fun p q => fr (p + q))) := by
  refine fn_pure df hg sc_law_plus ok_law_plus rfl fun F hF ds Q0 hl hs => ?_
  obtain ⟨p, q, N, rfl, hN, hp, hq, -, h⟩ := hs
  repeat' (walk_at "st_law_plus")
  all_goals first | exact NB.mulOk hp.1 hq.2 (by omega) (by omega) | exact NB.mulOk hq.1 hp.2 (by omega) (by omega) | exact NB.mulOk hp.2 hq.2 (by omega) (by omega) | skip
  refine ⟨rfl, _, _, rfl, ((hp.2.mul hq.2).up (Nat.le_succ _)).div (by omega) (by omega) (rat_mulNe p q), ?_⟩
  rw [← rat_add]; exact h
theorem p_law_minus {G : Gd} (B : Blt G) (hg : G.grd = false) (hk : G.k = 2) (f_law_fr : Fn G 2 "_law_fr" ["num", "den"] (spD G.K 2 sp_fraction)) (df : Df G "_law_minus" s_law_minus ["one", "other"]) : Fn G (G.k + 1) "_law_minus" ["one", "other"] (spD G.K 2 (spR2 yes2 fun p q => fr (p - q))) := by
  refine fn_pure df hg sc_law_minus ok_law_minus rfl fun F hF ds Q0 hl hs => ?_
  obtain ⟨p, q, N, rfl, hN, hp, hq, -, h⟩ := hs
  repeat' (walk_at "st_law_minus")
  all_goals first | exact NB.mulOk hp.1 hq.2 (by omega) (by omega) | exact NB.mulOk hq.1 hp.2 (by omega) (by omega) | exact NB.mulOk hp.2 hq.2 (by omega) (by omega) | skip
  refine ⟨rfl, _, _, rfl, ((hp.2.mul hq.2).up (Nat.le_succ _)).div (by omega) (by omega) (rat_mulNe p q), ?_⟩
  rw [← rat_sub]; exact h
theorem p_law_times {G : Gd} (B : Blt G) (hg : G.grd = false) (hk : G.k = 2) (f_law_fr : Fn G 2 "_law_fr" ["num", "den"] (spD G.K 2 sp_fraction)) (df : Df G "_law_times" s_law_times ["one", "other"]) : Fn G (G.k + 1) "_law_times" ["one", "other"] (spD G.K 2 (spR2 yes2 fun p q => fr (p * q))) := by
  refine fn_pure df hg sc_law_times ok_law_times rfl fun F hF ds Q0 hl hs => ?_
  obtain ⟨p, q, N, rfl, hN, hp, hq, -, h⟩ := hs
  repeat' (walk_at "st_law_times")
  all_goals first | exact NB.mulOk hp.1 hq.1 (by omega) (by omega) | exact NB.mulOk hp.2 hq.2 (by omega) (by omega) | skip
  refine ⟨rfl, _, _, rfl, ((hp.2.mul hq.2).up (Nat.le_succ _)).div (by omega) (by omega) (rat_mulNe p q), ?_⟩
  rw [← rat_mul]; exact h
theorem p_law_over {G : Gd} (B : Blt G) (hg : G.grd = false) (hk : G.k = 2) (f_law_fr : Fn G 2 "_law_fr" ["num", "den"] (spD G.K 2 sp_fraction)) (df : Df G "_law_over" s_law_over ["one", "other"]) : Fn G (G.k + 1) "_law_over" ["one", "other"] (spD G.K 2 (spR2 (fun _ q => q ≠ 0) fun p q => fr (p / q))) := by
  refine fn_pure df hg sc_law_over ok_law_over rfl fun F hF ds Q0 hl hs => ?_
  obtain ⟨p, q, N, rfl, hN, hp, hq, hn, h⟩ := hs
  repeat' (walk_at "st_law_over")
  all_goals first | exact NB.mulOk hp.1 hq.2 (by omega) (by omega) | exact NB.mulOk hp.2 hq.1 (by omega) (by omega) | skip
  refine ⟨rfl, _, _, rfl, ((hp.2.mul hq.1).up (Nat.le_succ _)).div (by omega) (by omega) (Int.mul_ne_zero (den_ne p) (num_ne hn)), ?_⟩
  rw [← rat_div]; exact h
theorem p_law_below {G : Gd} (B : Blt G) (hg : G.grd = false) (hk : G.k = 0) (df : Df G "_law_below" s_law_below ["one", "other"]) : Fn G (G.k + 1) "_law_below" ["one", "other"] (spD G.K 2 (spR2 yes2 fun p q => .bool (decide (p < q)))) := by
  refine fn_pure df hg sc_law_below ok_law_below rfl fun F hF ds Q0 hl hs => ?_
  obtain ⟨p, q, N, rfl, hN, hp, hq, -, h⟩ := hs
  repeat' (walk_at "st_law_below")
  all_goals first | exact NB.mulOk hp.1 hq.2 (by omega) (by omega) | exact NB.mulOk hq.1 hp.2 (by omega) (by omega) | skip
  rw [rat_lt]; exact h

theorem p_law_added {G : Gd} (B : Blt G) (hg : G.grd = false) (hk : G.k = 3) (f_law_plus : Fn G 3 "_law_plus" ["one", "other"] (spD G.K 2 (spR2 yes2 fun p q => fr (p + q)))) (df : Df G "_law_added" s_law_added ["one", "other"]) : Fn G (G.k + 1) "_law_added" ["one", "other"] (spD G.K 2 (spV2 fun p q => p + q)) := by
  refine fn_pure df hg sc_law_added ok_law_added rfl fun F hF ds Q0 hl hs => ?_
  obtain ⟨ps, qs, N, rfl, hN, hp, hq, h⟩ := hs
  repeat' (walk_at "st_law_added")
  refine wc_typ (ps.zip qs) (fun p => .tuple [fr p.1, fr p.2]) (fun p => fr (p.1 + p.2)) kd_law_added_0 gl_law_added_0 own_law_added_0 ?_ ?_
  · decide +kernel
  repeat' (walk_at "st_law_added")
  refine ⟨zipD_map fr fr ps qs, fun p hm => ?_, ?_⟩
  · obtain ⟨m1, m2⟩ := zip_mem hm
    refine wv_tup rfl ?_
    repeat' (walk_at "st_law_added")
    exact ⟨rfl, _, _, N, rfl, hN, hp _ m1, hq _ m2, trivial, rfl⟩
  · repeat' (walk_at "st_law_added")
    rw [vec_zip (fun p q => p + q)]; exact h
theorem p_law_less {G : Gd} (B : Blt G) (hg : G.grd = false) (hk : G.k = 3) (f_law_minus : Fn G 3 "_law_minus" ["one", "other"] (spD G.K 2 (spR2 yes2 fun p q => fr (p - q)))) (df : Df G "_law_less" s_law_less ["one", "other"]) : Fn G (G.k + 1) "_law_less" ["one", "other"] (spD G.K 2 (spV2 fun p q => p - q)) := by
  refine fn_pure df hg sc_law_less ok_law_less rfl fun F hF ds Q0 hl hs => ?_
  obtain ⟨ps, qs, N, rfl, hN, hp, hq, h⟩ := hs
  repeat' (walk_at "st_law_less")
  refine wc_typ (ps.zip qs) (fun p => .tuple [fr p.1, fr p.2]) (fun p => fr (p.1 - p.2)) kd_law_less_0 gl_law_less_0 own_law_less_0 ?_ ?_
  · decide +kernel
  repeat' (walk_at "st_law_less")
  refine ⟨zipD_map fr fr ps qs, fun p hm => ?_, ?_⟩
  · obtain ⟨m1, m2⟩ := zip_mem hm
    refine wv_tup rfl ?_
    repeat' (walk_at "st_law_less")
    exact ⟨rfl, _, _, N, rfl, hN, hp _ m1, hq _ m2, trivial, rfl⟩
  · repeat' (walk_at "st_law_less")
    rw [vec_zip (fun p q => p - q)]; exact h
theorem p_law_multiple {G : Gd} (B : Blt G) (hg : G.grd = false) (hk : G.k = 3) (f_law_times : Fn G 3 "_law_times" ["one", "other"] (spD G.K 2 (spR2 yes2 fun p q => fr (p * q)))) (df : Df G "_law_multiple" s_law_multiple ["share", "vector"]) : Fn G (G.k + 1) "_law_multiple" ["share", "vector"] (spD G.K 2 sp_multiple) := by
  refine fn_pure df hg sc_law_multiple ok_law_multiple rfl fun F hF ds Q0 hl hs => ?_
  obtain ⟨a, ps, N, rfl, hN, ha, hp, h⟩ := hs
  repeat' (walk_at "st_law_multiple")
  refine wc_typ ps fr (fun p => fr (a * p)) kd_law_multiple_0 gl_law_multiple_0 own_law_multiple_0 ?_ ?_
  · decide +kernel
  repeat' (walk_at "st_law_multiple")
  refine ⟨rfl, fun p hm => ?_, ?_⟩
  · repeat' (walk_at "st_law_multiple")
    exact ⟨rfl, _, _, N, rfl, hN, ha, hp _ hm, trivial, rfl⟩
  · repeat' (walk_at "st_law_multiple")
    rw [show ps.map (fun p => fr (a * p)) = (ps.map fun p => a * p).map fr by rw [List.map_map]; rfl]; exact h
theorem p_law_vector {G : Gd} (B : Blt G) (hg : G.grd = false) (hk : G.k = 0) (df : Df G "_law_vector" s_law_vector ["numbers"]) : Fn G (G.k + 1) "_law_vector" ["numbers"] (spD G.K 1 sp_vector) := by
  refine fn_pure df hg sc_law_vector ok_law_vector rfl fun F hF ds Q0 hl hs => ?_
  obtain ⟨ns, hd, h⟩ := hs
  have he : ns.map (fun n => PyData.tuple [.int n, .int 1]) = (ns.map (Int.cast : Int → Rat)).map fr := by
    rw [List.map_map]; rfl
  rcases hd with rfl | rfl
  · repeat' (walk_at "st_law_vector")
    refine wc_typ ns PyData.int (fun n => PyData.tuple [.int n, .int 1]) kd_law_vector_0 gl_law_vector_0 own_law_vector_0 ?_ ?_
    · decide +kernel
    repeat' (walk_at "st_law_vector")
    refine ⟨rfl, fun n hn => ?_, ?_⟩
    · repeat' (walk_at "st_law_vector")
      all_goals rfl
    · repeat' (walk_at "st_law_vector")
      rw [he]; exact h
  · repeat' (walk_at "st_law_vector")
    refine wc_typ ns PyData.int (fun n => PyData.tuple [.int n, .int 1]) kd_law_vector_0 gl_law_vector_0 own_law_vector_0 ?_ ?_
    · decide +kernel
    repeat' (walk_at "st_law_vector")
    refine ⟨rfl, fun n hn => ?_, ?_⟩
    · repeat' (walk_at "st_law_vector")
      all_goals rfl
    · repeat' (walk_at "st_law_vector")
      rw [he]; exact h

theorem take_cell {ns : List Int} {n : Int} (hns : ∀ k, k ∈ ns → 0 ≤ k) : ∃ (c : Int) (r : List PyData), 0 ≤ c ∧ cutD (ns.map PyData.int) (some n) none ++ [PyData.int 0] = .int c :: r := by
  cases h : cutD (ns.map PyData.int) (some n) none with
  | nil => exact ⟨0, [], by decide, rfl⟩
  | cons a r =>
    obtain ⟨k, hk, rfl⟩ := List.mem_map.mp (cutD_mem (x := a) (by rw [h]; exact List.Mem.head _))
    exact ⟨k, r ++ [PyData.int 0], hns k hk, rfl⟩
theorem take_sq (n k : Int) : DW.MulOk (n % 1000000007) (n % 1000000007) ∧ DW.MulOk (k % 998244353) 30011 := by
  have h1 := Int.emod_nonneg n (b := 1000000007) (by decide)
  have h2 := Int.emod_lt_of_pos n (b := 1000000007) (by decide)
  exact ⟨.inl ⟨by omega, by omega⟩, .inr (.inl ⟨by decide, by decide⟩)⟩
theorem fdiv_nonneg {n m : Int} (h : 0 ≤ n) (k : 0 < m) : 0 ≤ n.fdiv m := by
  rw [Int.fdiv_eq_ediv_of_nonneg _ (by omega)]
  exact Int.ediv_nonneg h (by omega)
theorem div_small {m : Int} (h0 : 0 < m) (h1 : m < 1073741824) : DivOk m := by
  have : NB 30 m := by unfold NB; omega
  exact this.div (by decide) (by decide) (by omega)
theorem p_law_take {G : Gd} (B : Blt G) (hg : G.grd = false) (hk : G.k = 0) (df : Df G "_law_take" s_law_take ["bag", "many"]) : Fn G (G.k + 1) "_law_take" ["bag", "many"] (spB G.K 2 sp_take) := by
  refine fn_bag df hg sc_law_take ok_law_take rfl fun F bb hF ds Q0 hl hs => ?_
  obtain ⟨m, rfl, h0, h1, hq⟩ := hs
  have hm : ∀ k : Int, Q0 (.int (k % m)) := fun k => hq _ (Int.emod_nonneg _ (by omega)) (Int.emod_lt_of_pos _ h0)
  have h8 : ∀ k : Int, 0 ≤ k % 2147483647 ∧ k % 2147483647 < 2147483647 := fun k => ⟨Int.emod_nonneg _ (by decide), Int.emod_lt_of_pos _ (by decide)⟩
  have h7 : DivOk 7 := ⟨by decide, by decide +kernel⟩
  repeat' (walk_at "st_law_take")
  · have := cutD_len (ns.map PyData.int) (some n) none
    rw [List.length_map] at this
    exact Nat.le_trans (Nat.add_le_add_right (Nat.le_trans this hln) 1) (lim_n _ (by decide))
  · obtain ⟨c, r, hc, e⟩ := take_cell (n := n) hns
    rw [e]
    refine d_ixL0 ?_
    repeat' (walk_at "st_law_take")
    · refine ⟨hc, ?_⟩
      repeat' (walk_at "st_law_take")
      all_goals first | decide | exact .inr (.inl ⟨by decide, by decide⟩) | exact .inl ⟨by decide, by decide⟩ | skip
      refine ⟨h8 _, ?_⟩
      repeat' (walk_at "st_law_take")
      all_goals first | decide | exact h0 | exact h7 | exact (take_sq _ 0).1 | exact (take_sq 0 _).2 | exact div_small h0 h1 | exact hm _ | exact .inr (.inl ⟨by decide, by decide⟩) | skip
      refine ⟨fdiv_nonneg hn h0, ?_⟩
      repeat' (walk_at "st_law_take")
      exact hm _
    · exact .inr (.inl ⟨by decide, by decide⟩)
    · decide
    · exact .inl ⟨by decide, by decide⟩
    · decide
    · refine ⟨h8 _, ?_⟩
      repeat' (walk_at "st_law_take")
      all_goals first | decide | exact h0 | exact h7 | exact (take_sq _ 0).1 | exact (take_sq 0 _).2 | exact div_small h0 h1 | exact hm _ | exact .inr (.inl ⟨by decide, by decide⟩) | skip
      refine ⟨fdiv_nonneg hn h0, ?_⟩
      repeat' (walk_at "st_law_take")
      exact hm _
  all_goals first | decide | exact h0 | exact h7 | exact (take_sq _ 0).1 | exact (take_sq 0 _).2 | exact div_small h0 h1 | exact hm _ | exact .inr (.inl ⟨by decide, by decide⟩) | skip
  refine ⟨fdiv_nonneg hn h0, ?_⟩
  repeat' (walk_at "st_law_take")
  exact hm _

theorem p_law_some {G : Gd} (B : Blt G) (hg : G.grd = false) (hk : G.k = 1) (f_law_take : Fn G 1 "_law_take" ["bag", "many"] (spB G.K 2 sp_take)) (df : Df G "_law_some" s_law_some ["bag", "things"]) : Fn G (G.k + 1) "_law_some" ["bag", "things"] (spB G.K 2 sp_some) := by
  refine fn_bag df hg sc_law_some ok_law_some rfl fun F bb hF ds Q0 hl hs => ?_
  obtain ⟨xs, rfl, h0, h1, hq⟩ := hs
  have hl0 : 0 < xs.length := List.length_pos_iff.mpr h0
  repeat' (walk_at "st_law_some")
  refine ⟨rfl, _, rfl, by omega, by omega, fun n hn hm => ?_⟩
  have hlt : n.toNat < xs.length := by omega
  exact d_ixLn n.toNat (by omega) (List.getElem?_eq_getElem hlt) (hq _ (List.getElem_mem hlt))
theorem p_law_mixed {G : Gd} (B : Blt G) (hg : G.grd = false) (hk : G.k = 1) (f_law_take : Fn G 1 "_law_take" ["bag", "many"] (spB G.K 2 sp_take)) (df : Df G "_law_mixed" s_law_mixed ["bag", "things"]) : Fn G (G.k + 1) "_law_mixed" ["bag", "things"] (spB G.K 2 sp_mixed) := by
  refine fn_bag df hg sc_law_mixed ok_law_mixed rfl fun F bb hF ds Q0 hl hs => ?_
  obtain ⟨xs, rfl, h1, hq⟩ := hs
  refine ws_cons (w1_own 2 t_law_mixed_found (wf_list (wl_nil ?_)))
  refine ⟨Nat.zero_le _, ?_⟩
  refine ws_cons (w1_for (fun i Γ => ∃ (ys : List PyData) (t : Bd), ys.Perm (xs.take i) ∧ Γ = [Bd.rw (.ref bb), Bd.im (.list xs), Bd.mu ys, t]) ?_)
  repeat' (walk_at "st_law_mixed")
  refine ⟨⟨[], _, List.Perm.refl _, rfl⟩, ?_, ?_⟩
  · rintro i d Γ1 hd ⟨ys, t, hp, rfl⟩
    have hi : i < xs.length := (List.getElem?_eq_some_iff.mp hd).1
    have hl : ys.length = i := by rw [hp.length_eq, List.length_take]; omega
    refine wg_name 3 t_law_mixed_thing ?_
    refine ws_cons (w1_insert 2 r_law_mixed_found rfl ?_)
    repeat' (walk_at "st_law_mixed")
    refine ⟨rfl, _, rfl, by omega, by omega, fun n hn hm => ?_⟩
    repeat' (walk_at "st_law_mixed")
    refine ⟨n, d, rfl, ?_, hn, by omega, ?_⟩
    · exact Nat.lt_of_lt_of_le (show ys.length < 1001 by omega) (by rw [lim_eq]; decide)
    refine ws_nil ?_
    refine ⟨_, _, ?_, rfl⟩
    rw [take_succ hd]
    refine List.Perm.trans ?_ (hp.append_right [d])
    have e : ys.take n.toNat ++ ys.drop n.toNat = ys := List.take_append_drop ..
    have p1 : (ys.take n.toNat ++ [d] ++ ys.drop n.toNat).Perm (ys.take n.toNat ++ ys.drop n.toNat ++ [d]) := by
      rw [List.append_assoc, List.append_assoc]
      exact List.Perm.append_left _ List.perm_append_comm
    rw [e] at p1
    exact p1
  · rintro Γ1 ⟨ys, t, hp, rfl⟩
    rw [List.take_length] at hp
    refine ws_freeze 2 rfl ?_
    repeat' (walk_at "st_law_mixed")
    exact hq _ hp
theorem p_law_number {G : Gd} (B : Blt G) (hg : G.grd = false) (hk : G.k = 1) (f_law_take : Fn G 1 "_law_take" ["bag", "many"] (spB G.K 2 sp_take)) (df : Df G "_law_number" s_law_number ["bag"]) : Fn G (G.k + 1) "_law_number" ["bag"] (spB G.K 1 sp_number) := by
  refine fn_bag df hg sc_law_number ok_law_number rfl fun F bb hF ds Q0 hl hs => ?_
  obtain ⟨rfl, hq⟩ := hs
  repeat' (walk_at "st_law_number")
  refine ⟨rfl, _, rfl, by decide, by decide, fun n hn hm => ?_⟩
  repeat' (walk_at "st_law_number")
  · refine ⟨rfl, _, rfl, by decide, by decide, fun n hn hm => ?_⟩
    repeat' (walk_at "st_law_number")
    refine hq _ ?_
    unfold NB; omega
  · refine ⟨rfl, _, rfl, by decide, by decide, fun n hn hm => ?_⟩
    have hm : n < 1000000000 := hm
    repeat' (walk_at "st_law_number")
    · exact .inr (.inl ⟨by decide, by decide⟩)
    · refine hq _ ?_
      show NB 29 (n - 500000000)
      unfold NB; omega
theorem p_law_drawn_fraction {G : Gd} (B : Blt G) (hg : G.grd = false) (hk : G.k = 2) (f_law_number : Fn G 2 "_law_number" ["bag"] (spB G.K 1 sp_number)) (f_law_fr : Fn G 2 "_law_fr" ["num", "den"] (spD G.K 2 sp_fraction)) (df : Df G "_law_drawn_fraction" s_law_drawn_fraction ["bag"]) : Fn G (G.k + 1) "_law_drawn_fraction" ["bag"] (spB G.K 1 sp_drawnfr) := by
  refine fn_bag df hg sc_law_drawn_fraction ok_law_drawn_fraction rfl fun F bb hF ds Q0 hl hs => ?_
  obtain ⟨rfl, hq⟩ := hs
  repeat' (walk_at "st_law_drawn_fraction")
  refine ⟨rfl, rfl, fun n hn => ?_⟩
  repeat' (walk_at "st_law_drawn_fraction")
  refine ⟨rfl, rfl, fun d hd => ?_⟩
  repeat' (walk_at "st_law_drawn_fraction")
  have h1 : (d.natAbs : Int) + 1 ≠ 0 := by omega
  have h2 : NB 30 ((d.natAbs : Int) + 1) := by unfold NB at *; omega
  refine ⟨rfl, _, _, rfl, h2.div (by decide) (by decide) h1, hq _ ?_⟩
  exact .of (hn.up (by decide)) h2 h1
theorem p_law_stand {G : Gd} (B : Blt G) (hg : G.grd = false) (hk : G.k = 2) (f_law_some : Fn G 2 "_law_some" ["bag", "things"] (spB G.K 2 sp_some)) (f_law_take : Fn G 1 "_law_take" ["bag", "many"] (spB G.K 2 sp_take)) (f_law_fr : Fn G 2 "_law_fr" ["num", "den"] (spD G.K 2 sp_fraction)) (df : Df G "_law_stand" s_law_stand ["bag", "many"]) : Fn G (G.k + 1) "_law_stand" ["bag", "many"] (spB G.K 2 sp_stand) := by
  refine fn_bag df hg sc_law_stand ok_law_stand rfl fun F bb hF ds Q0 hl hs => ?_
  obtain ⟨m, rfl, hm, hq⟩ := hs
  repeat' (walk_at "st_law_stand")
  refine ⟨rfl, _, rfl, by simp, by decide, fun x hx => ?_⟩
  have hx' : ∃ k : Int, (0 < k ∧ k ≤ 3) ∧ x = .int k := by
    simp at hx
    rcases hx with rfl | rfl | rfl
    · exact ⟨1, by decide, rfl⟩
    · exact ⟨2, by decide, rfl⟩
    · exact ⟨3, by decide, rfl⟩
  obtain ⟨k, hk, rfl⟩ := hx'
  repeat' (walk_at "st_law_stand")
  refine wc_some kd_law_stand_0 gl_law_stand_0 own_law_stand_0 ?_ (fun _ y => ∃ q, RB 4 q ∧ y = fr q) ?_
  · decide +kernel
  repeat' (walk_at "st_law_stand")
  refine ⟨by omega, by omega, fun d hd => ?_, fun ys hl hy => ?_⟩
  · repeat' (walk_at "st_law_stand")
    refine ⟨rfl, _, rfl, by decide, by decide, fun n hn hm => ?_⟩
    repeat' (walk_at "st_law_stand")
    have h2 : NB 4 k := by unfold NB; omega
    refine ⟨rfl, _, _, rfl, h2.div (by decide) (by decide) (by omega), _, ?_, rfl⟩
    refine RB.of ?_ h2 (by omega)
    unfold NB; omega
  · repeat' (walk_at "st_law_stand")
    rw [rngD_len] at hl
    obtain ⟨ps, rfl, hp⟩ := all_fr fun y hz => (get_some_of_mem (P := fun _ y => ∃ q, RB 4 q ∧ y = fr q) (by rw [hl, rngD_len]) hy y hz).elim fun _ h => h.2
    refine hq ps ?_ hp
    rw [List.length_map] at hl
    rw [hl, Int.toNat_natCast]

theorem p_law_reading {G : Gd} (B : Blt G) (hg : G.grd = false) (hk : G.k = 2) (f_law_take : Fn G 1 "_law_take" ["bag", "many"] (spB G.K 2 sp_take)) (f_law_some : Fn G 2 "_law_some" ["bag", "things"] (spB G.K 2 sp_some)) (df : Df G "_law_reading" s_law_reading ["bag", "many"]) : Fn G (G.k + 1) "_law_reading" ["bag", "many"] (spB G.K 2 sp_reading) := by
  refine fn_bag df hg sc_law_reading ok_law_reading rfl fun F bb hF ds Q0 hl hs => ?_
  obtain ⟨m, rfl, h0, hm, hq⟩ := hs
  have fin : ∀ ys : List PyData, ys.length = (rngD 0 (m : Int).toNat).length → (∀ y, y ∈ ys → ∃ q, NB 3 q ∧ y = .int q) → Q0 (.tuple ys) := by
    intro ys hl hy
    rw [rngD_len, Int.toNat_natCast] at hl
    obtain ⟨ns, rfl, hp⟩ := all_int hy
    exact hq ns (by rw [← hl, List.length_map]) hp
  have n3 : ∀ k : Int, -3 ≤ k → k ≤ 3 → NB 3 k := fun k _ _ => by unfold NB; omega
  repeat' (walk_at "st_law_reading")
  refine ⟨rfl, _, rfl, by decide, by decide, fun way hn hm => ?_⟩
  repeat' (walk_at "st_law_reading")
  refine ⟨rfl, _, rfl, by omega, by omega, fun at_ hn hm => ?_⟩
  repeat' (walk_at "st_law_reading")
  · refine wc_some kd_law_reading_0 gl_law_reading_0 own_law_reading_0 ?_ (fun _ y => ∃ q, NB 3 q ∧ y = .int q) ?_
    · decide +kernel
    repeat' (walk_at "st_law_reading")
    refine ⟨by omega, by omega, fun d hd => ?_, fun ys hl hy => ?_⟩
    · obtain ⟨i, hi⟩ := List.mem_iff_getElem?.mp hd
      obtain ⟨hi, rfl⟩ := rngD_get hi
      repeat' (walk_at "st_law_reading")
      · refine ⟨rfl, _, rfl, by simp, by decide, fun x hx => ?_⟩
        simp at hx
        rcases hx with rfl | rfl
        · exact ⟨1, n3 1 (by decide) (by decide), rfl⟩
        · exact ⟨-1, n3 _ (by decide) (by decide), rfl⟩
      · exact ⟨0, n3 0 (by decide) (by decide), rfl⟩
    · repeat' (walk_at "st_law_reading")
      exact fin ys hl fun y hz => (get_some_of_mem (P := fun _ y => ∃ q, NB 3 q ∧ y = .int q) hl hy y hz).elim fun _ h => h.2
  · exact List.cons_ne_nil _ _
  · omega
  · omega
  · exact Nat.le_trans (show 1 ≤ 1 from Nat.le_refl _) (by decide)
  · rw [List.flatten_replicate_singleton, Int.toNat_natCast]
    have := hq (List.replicate m 1) (List.length_replicate ..) fun n hn => by rw [List.eq_of_mem_replicate hn]; exact n3 1 (by decide) (by decide)
    rw [List.map_replicate] at this
    exact this
  · refine ⟨rfl, _, rfl, by omega, by omega, fun other hn hm => ?_⟩
    repeat' (walk_at "st_law_reading")
    refine wc_some kd_law_reading_1 gl_law_reading_1 own_law_reading_1 ?_ (fun _ y => ∃ q, NB 3 q ∧ y = .int q) ?_
    · decide +kernel
    repeat' (walk_at "st_law_reading")
    refine ⟨by omega, by omega, fun d hd => ?_, fun ys hl hy => ?_⟩
    · obtain ⟨i, hi⟩ := List.mem_iff_getElem?.mp hd
      obtain ⟨hi, rfl⟩ := rngD_get hi
      repeat' (walk_at "st_law_reading")
      refine ⟨_, ?_, rfl⟩
      refine n3 _ ?_ ?_ <;> (split <;> split <;> decide)
    · repeat' (walk_at "st_law_reading")
      exact fin ys hl fun y hz => (get_some_of_mem (P := fun _ y => ∃ q, NB 3 q ∧ y = .int q) hl hy y hz).elim fun _ h => h.2
  · refine wc_some kd_law_reading_2 gl_law_reading_2 own_law_reading_2 ?_ (fun _ y => ∃ q, NB 3 q ∧ y = .int q) ?_
    · decide +kernel
    repeat' (walk_at "st_law_reading")
    refine ⟨by omega, by omega, fun d hd => ?_, fun ys hl hy => ?_⟩
    · obtain ⟨i, hi⟩ := List.mem_iff_getElem?.mp hd
      obtain ⟨hi, rfl⟩ := rngD_get hi
      repeat' (walk_at "st_law_reading")
      refine ⟨rfl, _, rfl, by simp, by decide, fun x hx => ?_⟩
      simp at hx
      rcases hx with rfl | rfl | rfl | rfl | rfl | rfl
      · exact ⟨0, n3 _ (by decide) (by decide), rfl⟩
      · exact ⟨1, n3 _ (by decide) (by decide), rfl⟩
      · exact ⟨-1, n3 _ (by decide) (by decide), rfl⟩
      · exact ⟨2, n3 _ (by decide) (by decide), rfl⟩
      · exact ⟨0, n3 _ (by decide) (by decide), rfl⟩
      · exact ⟨-3, n3 _ (by decide) (by decide), rfl⟩
    · repeat' (walk_at "st_law_reading")
      exact fin ys hl fun y hz => (get_some_of_mem (P := fun _ y => ∃ q, NB 3 q ∧ y = .int q) hl hy y hz).elim fun _ h => h.2

theorem p_law_alike {G : Gd} (B : Blt G) (hG : G.grd = true) (hk : G.k = 0) (df : Df G "_law_alike" s_law_alike ["found", "due"]) : FnG G (G.k + 1) "_law_alike" ["found", "due"] (spD G.K 2 sp_alike) := by
  refine fnG_pure df sc_law_alike ok_law_alike rfl fun F hF ds Q0 hl hs => ?_
  obtain ⟨xs, k, n, rfl, ht, hk, hn, hq⟩ := hs
  repeat' (walk_at "st_law_alike")
  refine d_eqSame ht hk ?_
  repeat' (walk_at "st_law_alike")
  refine ⟨trivial, d_repr ht hk hn ?_⟩
  repeat' (walk_at "st_law_alike")
  refine ⟨trivial, d_repr ht hk hn ?_⟩
  repeat' (walk_at "st_law_alike")
  rw [decide_eq_true rfl]
  exact hq

theorem p_law_bag {G : Gd} (B : Blt G) (hg : G.grd = false) (hk : G.k = 0) (df : Df G "_law_bag" s_law_bag ["script"]) : Fn G (G.k + 1) "_law_bag" ["script"] (spNew G.K) := by
  refine fn_new df hg sc_law_bag ok_law_bag rfl rfl fun F hF ns hz => ⟨_, _, _, rfl, ?_⟩
  repeat' (walk_at "st_law_bag")
  refine wc_typ (ns.take 63) PyData.int (fun n => .int (n.natAbs : Int)) kd_law_bag_0 gl_law_bag_0 own_law_bag_0 ?_ ?_
  · decide +kernel
  repeat' (walk_at "st_law_bag")
  refine ⟨?_, fun n hn => ?_, ?_⟩
  · have := cutD_to (ns.map PyData.int) 63
    rw [List.map_take]; exact this
  · repeat' (walk_at "st_law_bag")
    rfl
  · repeat' (walk_at "st_law_bag")
    refine ⟨0, 1234567891, 0, (ns.take 63).map fun n => (n.natAbs : Int), by rw [List.map_map]; rfl, by decide, by decide, by decide, by decide, ?_, fun m hm => ?_⟩
    · rw [List.length_map, List.length_take]; omega
    · obtain ⟨k, _, rfl⟩ := List.mem_map.mp hm
      omega

theorem p_law_frame {G : Gd} (B : Blt G) (hg : G.grd = false) (hk : G.k = 2) (f_law_take : Fn G 1 "_law_take" ["bag", "many"] (spB G.K 2 sp_take)) (f_law_some : Fn G 2 "_law_some" ["bag", "things"] (spB G.K 2 sp_some)) (f_law_mixed : Fn G 2 "_law_mixed" ["bag", "things"] (spB G.K 2 sp_mixed)) (df : Df G "_law_frame" s_law_frame ["bag", "most"]) : Fn G (G.k + 1) "_law_frame" ["bag", "most"] (spB G.K 2 sp_frame) := by
  refine fn_bag df hg sc_law_frame ok_law_frame rfl fun F bb hF ds Q0 hl hs => ?_
  obtain ⟨m, rfl, h1, h12, hq⟩ := hs
  repeat' (walk_at "st_law_frame")
  refine ⟨rfl, _, rfl, by simp, fun ys hy => ?_⟩
  have hflat : ∀ y, y ∈ ys → flatD y = true := fun y hm => by
    have := hy.mem_iff.mp hm
    simp only [List.mem_cons, List.not_mem_nil, or_false] at this
    rcases this with rfl | rfl | rfl | rfl | rfl | rfl | rfl | rfl | rfl | rfl | rfl | rfl <;> rfl
  have hlay : ∀ y, y ∈ ys → TmD 0 20 y := fun y hm => by
    have := hy.mem_iff.mp hm
    simp only [List.mem_cons, List.not_mem_nil, or_false] at this
    rcases this with rfl | rfl | rfl | rfl | rfl | rfl | rfl | rfl | rfl | rfl | rfl | rfl <;> exact ⟨by decide +kernel, by decide +kernel, by simp [PyData.depth], by decide +kernel⟩
  have hl12 : ys.length = 12 := hy.length_eq
  repeat' (walk_at "st_law_frame")
  refine ⟨rfl, _, rfl, by omega, by omega, fun k hk0 hk1 => ?_⟩
  repeat' (walk_at "st_law_frame")
  rw [show (1 + k : Int) = ((1 + k.toNat : Nat) : Int) by omega, cutD_to]
  have hc0 : (ys.take (1 + k.toNat)) ≠ [] := fun z => by
    have := congrArg List.length z
    rw [List.length_take] at this
    simp only [List.length_nil] at this
    omega
  have hcm : (ys.take (1 + k.toNat)).length ≤ m := by rw [List.length_take]; omega
  have hcs : ∀ y, y ∈ ys.take (1 + k.toNat) → y ∈ ys := fun y h => List.mem_of_mem_take h
  generalize ys.take (1 + k.toNat) = cs at hc0 hcm hcs
  repeat' (walk_at "st_law_frame")
  refine ⟨rfl, _, rfl, by simp, by simp, fun way hw => ?_⟩
  repeat' (walk_at "st_law_frame")
  refine ⟨rfl, _, rfl, by simp, by simp, fun sh hs => ?_⟩
  obtain ⟨s, hs0, hs1, rfl⟩ : ∃ s : Int, 0 < s ∧ s < 100 ∧ sh = .int s := by
    simp only [List.mem_cons, List.not_mem_nil, or_false] at hs
    rcases hs with rfl | rfl | rfl
    · exact ⟨9, by decide, by decide, rfl⟩
    · exact ⟨3, by decide, by decide, rfl⟩
    · exact ⟨4, by decide, by decide, rfl⟩
  repeat' (walk_at "st_law_frame")
  refine wc_sub kd_law_frame_0 gl_law_frame_0 own_law_frame_0 ?_ ?_
  · decide +kernel
  repeat' (walk_at "st_law_frame")
  refine ⟨fun d hd => ?_, fun fs hfs => ?_⟩
  · repeat' (walk_at "st_law_frame")
    refine ⟨rfl, _, rfl, by simp, by simp, fun t ht => ?_⟩
    obtain ⟨t, ht0, ht1, rfl⟩ : ∃ s : Int, 0 < s ∧ s < 100 ∧ t = .int s := by
      simp only [List.mem_cons, List.not_mem_nil, or_false] at ht
      rcases ht with rfl | rfl | rfl
      · exact ⟨99, by decide, by decide, rfl⟩
      · exact ⟨5, by decide, by decide, rfl⟩
      · exact ⟨9, by decide, by decide, rfl⟩
    repeat' (walk_at "st_law_frame")
    refine ⟨rfl, _, rfl, by omega, by omega, fun z hz0 hz1 => ?_⟩
    repeat' (walk_at "st_law_frame")
    intro _
    repeat' (walk_at "st_law_frame")
    rfl
  have hfy : ∀ y, y ∈ fs → y ∈ ys := fun y h => hcs y (hfs.subset h)
  repeat' (walk_at "st_law_frame")
  refine w1_nest 8 6 r_law_frame_groups t_law_frame_cell r_law_frame_cell (by decide) rfl ?_ (by show 6 < 11; decide) ?_
  · intro j es hj
    match j, hj with
    | 8, _ => rfl
    | 0, z | 1, z | 2, z | 3, z | 4, z | 5, z | 6, z | 7, z | 9, z | 10, z => cases z
    | j + 11, z => cases z
  refine wi_seq (we_fresh (wf_lc ?_))
  refine wc_sub kd_law_frame_1 gl_law_frame_1 own_law_frame_1 ?_ ?_
  · decide +kernel
  repeat' (walk_at "st_law_frame")
  refine ⟨fun d hd => ?_, fun gs hgs => ?_⟩
  · repeat' (walk_at "st_law_frame")
    refine ⟨.inl ⟨hflat d (hcs d hd), List.all_eq_true.mpr fun y h => hflat y (hfy y h)⟩, ?_⟩
    repeat' (walk_at "st_law_frame")
    intro _
    repeat' (walk_at "st_law_frame")
    rfl
  have hgy : ∀ y, y ∈ gs → y ∈ ys := fun y h => hcs y (hgs.subset h)
  have hg12 : gs.length ≤ 12 := by have := hgs.length_le; omega
  refine d_seqL ?_
  refine ⟨by omega, fun F' a vs dss d xs hF' hna hv hvl hdp hP hxs hd hz => ⟨?_, fun hne => ?_⟩, fun dss t hP => ?_⟩
  · have hF : F'.bag = some bb := hF'.trans hF
    obtain ⟨i, hxi⟩ := hxs
    have hxy : ∀ x, x ∈ xs → x ∈ ys := fun x h => hgy x (by rw [hxi] at h; exact List.mem_of_mem_take h)
    have hx12 : xs.length ≤ 12 := by rw [hxi, List.length_take]; omega
    have hsh : SeqAt.shaped (.list (dss.map PyData.list)) = true := by
      have : TmD 2 ((((20 + 2) * 12 + 3) + 2) * 1000 + 3) (.list (dss.map PyData.list)) := by
        refine tm_list (fun e he => ?_) (by rw [List.length_map]; exact hz)
        obtain ⟨es, hes, rfl⟩ := List.mem_map.mp he
        obtain ⟨_, h2, h3⟩ := hP.mem.1 es hes
        exact tm_list (fun e he => hlay e (hxy e (h3 e he))) (by omega)
      exact this.shaped (by decide)
    refine wt_of_ww (ww_and ?_)
    refine wt_neKept 8 r_law_frame_groups rfl hdp hsh ⟨fun hx => ?_, fun _ z => nomatch z⟩
    have hne : dss ≠ [] := fun z => by subst z; simp at hx
    refine ww_and1 ?_
    repeat' (walk_at "st_law_frame")
    refine ⟨rfl, s, rfl, hs0, by omega, fun n hn0 hn1 => ?_⟩
    repeat' (walk_at "st_law_frame")
    exact fun _ => hne
  · have hF : F'.bag = some bb := hF'.trans hF
    have hl0 : 0 < dss.length := List.length_pos_iff.mpr hne
    refine we_bag f_law_take g_law_frame__law_take (by omega) r_law_frame_bag rfl hF ?_
    refine wl_cons (we_lenKept 8 B.len g_law_frame_len r_law_frame_groups rfl hv hna (wl_nil ?_))
    exact ⟨rfl, (vs.length : Int), rfl, by omega, by omega, fun n hn0 hn1 => ⟨n.toNat, by rw [Int.toNat_of_nonneg hn0], by omega⟩⟩
  · repeat' (walk_at "st_law_frame")
    refine wc_typ dss PyData.list PyData.tuple kd_law_frame_2 gl_law_frame_2 own_law_frame_2 ?_ ?_
    · decide +kernel
    repeat' (walk_at "st_law_frame")
    refine ⟨rfl, fun es hes => ?_, ?_⟩
    · repeat' (walk_at "st_law_frame")
      rfl
    · repeat' (walk_at "st_law_frame")
      exact hq _ _ _ _ hc0 hcm

set_option hygiene false in
local macro_rules | `(tactic| walk_at "L") => `(tactic| repeat' (walk_at "st_law"))
theorem law_told (one other : Rat) (num : Int) : fr (one - other + other) = fr one ∧ PyData.bool (decide (one ≤ other)) = .bool (!decide (other < one)) ∧ PyData.bool (decide (one ≤ one)) = .bool true ∧ PyData.bool (decide (one < one)) = .bool false ∧ (num : Rat).floor = num := by
  refine ⟨by rw [Rat.sub_add_cancel], ?_, by rw [decide_eq_true Rat.le_refl], by rw [decide_eq_false Rat.lt_irrefl], ?_⟩
  · congr 1
    by_cases h : one ≤ other
    · rw [decide_eq_true h, decide_eq_false (Rat.not_lt.mpr h)]; rfl
    · rw [decide_eq_false h, decide_eq_true (Rat.not_le.mp h)]; rfl
  · rw [Rat.floor_def]; show num / 1 = num; exact Int.ediv_one num
theorem p_law {G : Gd} (B : Blt G) (hG : G.grd = true) (hk : G.k = 4) (f_law_bag : Fn G 1 "_law_bag" ["script"] (spNew G.K)) (f_law_drawn_fraction : Fn G 3 "_law_drawn_fraction" ["bag"] (spB G.K 1 sp_drawnfr)) (f_law_number : Fn G 2 "_law_number" ["bag"] (spB G.K 1 sp_number)) (f_plus : Fn G 2 "plus" ["one", "other"] (spD G.K 2 (spR2 yes2 fun p q => fr (p + q)))) (f_minus : Fn G 2 "minus" ["one", "other"] (spD G.K 2 (spR2 yes2 fun p q => fr (p - q)))) (f_times : Fn G 2 "times" ["one", "other"] (spD G.K 2 (spR2 yes2 fun p q => fr (p * q)))) (f_whole : Fn G 1 "whole" ["integer"] (spD G.K 1 sp_whole)) (f_law_plus : Fn G 3 "_law_plus" ["one", "other"] (spD G.K 2 (spR2 yes2 fun p q => fr (p + q)))) (f_law_minus : Fn G 3 "_law_minus" ["one", "other"] (spD G.K 2 (spR2 yes2 fun p q => fr (p - q)))) (f_law_times : Fn G 3 "_law_times" ["one", "other"] (spD G.K 2 (spR2 yes2 fun p q => fr (p * q)))) (f_is_less : Fn G 1 "is_less" ["one", "other"] (spD G.K 2 (spR2 yes2 fun p q => .bool (decide (p < q))))) (f_is_at_most : Fn G 1 "is_at_most" ["one", "other"] (spD G.K 2 (spR2 yes2 fun p q => .bool (decide (p ≤ q))))) (f_law_below : Fn G 1 "_law_below" ["one", "other"] (spD G.K 2 (spR2 yes2 fun p q => .bool (decide (p < q))))) (f_sign_of : Fn G 1 "sign_of" ["one"] (spD G.K 1 (spR1 fun p => .int p.num.sign))) (f_floor_of : Fn G 1 "floor_of" ["one"] (spD G.K 1 (spR1 fun p => .int p.floor))) (f_fraction : Fn G 1 "fraction" ["num", "den"] (spD G.K 2 sp_fraction)) (f_law_floor : Fn G 1 "_law_floor" ["one"] (spD G.K 1 (spR1 fun p => .int p.floor))) (f_law_fr : Fn G 2 "_law_fr" ["num", "den"] (spD G.K 2 sp_fraction)) (f_law_some : Fn G 2 "_law_some" ["bag", "things"] (spB G.K 2 sp_some)) (f_law_take : Fn G 1 "_law_take" ["bag", "many"] (spB G.K 2 sp_take)) (f_over : Fn G 2 "over" ["one", "other"] (spD G.K 2 (spR2 (fun _ q => q ≠ 0) fun p q => fr (p / q)))) (f_law_over : Fn G 3 "_law_over" ["one", "other"] (spD G.K 2 (spR2 (fun _ q => q ≠ 0) fun p q => fr (p / q)))) (f_law_frame : Fn G 3 "_law_frame" ["bag", "most"] (spB G.K 2 sp_frame)) (f_law_stand : Fn G 3 "_law_stand" ["bag", "many"] (spB G.K 2 sp_stand)) (f_law_reading : Fn G 3 "_law_reading" ["bag", "many"] (spB G.K 2 sp_reading)) (f_nought : Fn G 1 "nought" ["frame"] (spD G.K 1 sp_nought)) (f_added : Fn G 3 "added" ["one", "other"] (spD G.K 2 (spV2 fun p q => p + q))) (f_less : Fn G 3 "less" ["one", "other"] (spD G.K 2 (spV2 fun p q => p - q))) (f_multiple : Fn G 3 "multiple" ["share", "vector"] (spD G.K 2 sp_multiple)) (f_vector_of : Fn G 1 "vector_of" ["numbers"] (spD G.K 1 sp_vector)) (f_law_added : Fn G 4 "_law_added" ["one", "other"] (spD G.K 2 (spV2 fun p q => p + q))) (f_law_less : Fn G 4 "_law_less" ["one", "other"] (spD G.K 2 (spV2 fun p q => p - q))) (f_law_multiple : Fn G 4 "_law_multiple" ["share", "vector"] (spD G.K 2 sp_multiple)) (f_law_vector : Fn G 1 "_law_vector" ["numbers"] (spD G.K 1 sp_vector)) (f_law_alike : FnG G 1 "_law_alike" ["found", "due"] (spD G.K 2 sp_alike)) (df : Df G "law" s_law ["script"]) : FnG G (G.k + 1) "law" ["script"] (spD G.K 1 spLaw) := by
  refine fnG_pure df sc_law ok_law rfl fun F hF ds Q0 hl hs => ?_
  obtain ⟨ns, rfl, hz, hq⟩ := hs
  refine ws_new 1 f_law_bag hF g_law__law_bag (by omega) t_law_bag hz ?_ fun F b hF => ?_
  · walk_at "L"
    rfl
  refine ws_cons (w1_for (fun _ Γ => ∃ t0 t2 t3 t4 t5 t6 t7 t8 t9 t10 t11 t12 t13 t14 : Bd, Γ = [t0, Bd.rw (.ref b), t2, t3, t4, t5, t6, t7, t8, t9, t10, t11, t12, t13, t14]) ?_)
  walk_at "L"
  refine ⟨by decide, by decide, ⟨_, _, _, _, _, _, _, _, _, _, _, _, _, _, rfl⟩, ?_, ?_⟩
  · rintro i d Γ1 hd ⟨t0, t2, t3, t4, t5, t6, t7, t8, t9, t10, t11, t12, t13, t14, rfl⟩
    walk_at "L"
    refine ⟨rfl, rfl, fun one h1 => ?_⟩; walk_at "L"
    refine ⟨rfl, rfl, fun other h2 => ?_⟩; walk_at "L"
    refine ⟨rfl, rfl, fun num hn => ?_⟩; walk_at "L"
    refine ⟨rfl, rfl, fun den hdn => ?_⟩; walk_at "L"
    have d2 : DivOk 2 := ⟨by decide, by decide +kernel⟩
    have rn : RB 30 (num : Rat) := RB.cast (hn.up (by decide)) (by decide)
    have rh : RB 30 (Rat.divInt num 2) := RB.of (hn.up (by decide)) (show NB 30 2 by unfold NB; decide) (by decide)
    refine use2 (N := 30) (by decide) h1 h2 ?_; walk_at "L"
    refine use2 (N := 30) (by decide) h1 h2 ?_; walk_at "L"
    refine use2 (N := 30) (by decide) h1 h2 ?_; walk_at "L"
    refine ⟨rfl, num, rfl, ?_⟩; walk_at "L"
    refine use2 (N := 30) (by decide) h1 h2 ?_; walk_at "L"
    refine use2 (N := 61) (by decide) (h1.sub h2) (h2.up (by decide)) ?_; walk_at "L"
    refine use2 (N := 30) (by decide) h1 h2 ?_; walk_at "L"
    refine use2 (N := 30) (by decide) h1 h2 ?_; walk_at "L"
    refine use2 (N := 30) (by decide) h1 h2 ?_; walk_at "L"
    refine use2 (N := 30) (by decide) h1 h2 ?_; walk_at "L"
    refine use2 (N := 30) (by decide) h1 h2 ?_; walk_at "L"
    refine use2 (N := 30) (by decide) h1 h1 ?_; walk_at "L"
    refine use2 (N := 30) (by decide) h1 h1 ?_; walk_at "L"
    refine use2 (N := 30) (by decide) h1 h2 ?_; walk_at "L"
    refine use2 (N := 30) (by decide) h2 h1 ?_; walk_at "L"
    refine use1 (N := 30) (by decide) h1 ?_; walk_at "L"
    refine use1 (N := 30) (by decide) h1 ?_; walk_at "L"
    refine ⟨rfl, num, rfl, ?_⟩; walk_at "L"
    refine use1 (N := 30) (by decide) rn ?_; walk_at "L"
    refine ⟨rfl, num, 2, rfl, d2, ?_⟩; walk_at "L"
    refine use1 (N := 30) (by decide) rh ?_; walk_at "L"
    refine use1 (N := 30) (by decide) h1 ?_; walk_at "L"
    refine ⟨rfl, num, 2, rfl, d2, ?_⟩; walk_at "L"
    refine use1 (N := 30) (by decide) rh ?_; walk_at "L"
    obtain ⟨e1, e2, e3, e4, e5⟩ := law_told one other num
    rw [e1, e2, e3, e4, e5, ← sign_eq]
    refine w1_at (fun Γ => ∃ (t0 t2 t9 t10 t11 t12 t13 t14 : Bd) (T : List PyData), TL 13 T ∧ Γ = [t0, Bd.rw (.ref b), t2, Bd.im (fr one), Bd.im (fr other), Bd.im (.int num), Bd.im (.int den), Bd.mu T, Bd.mu T, t9, t10, t11, t12, t13, t14]) ⟨_, _, _, _, _, _, _, _, _, ?_, rfl⟩ ?_
    · exact ((TL.nil.cons (t_f h1 (by decide) (by decide)) |>.cons (t_f rn (by decide) (by decide)) |>.cons (t_f (h1.mul h2) (by decide) (by decide)) |>.cons (t_f (h1.sub h2) (by decide) (by decide)) |>.cons (t_f (h1.add h2) (by decide) (by decide))).app (TL.nil.cons (t_b _) |>.cons (t_b _) |>.cons (t_b _) |>.cons (t_b _))).app (TL.nil.cons (t_i rh.floor (by decide) (by decide)) |>.cons (t_i (hn.up (by decide : 29 ≤ 30)) (by decide) (by decide)) |>.cons (t_i h1.floor (by decide) (by decide)) |>.cons (t_i (N := 1) (by rw [sign_eq]; exact NB.sign _ (by decide)) (by decide) (by decide)))
    rintro Γ1 ⟨t0, t2, t9, t10, t11, t12, t13, t14, T, hT, rfl⟩
    refine w1_cut (fun Γ => ∃ (t0 t2 t9 t10 t11 t12 t13 t14 : Bd) (T : List PyData), TL 14 T ∧ Γ = [t0, Bd.rw (.ref b), t2, Bd.im (fr one), Bd.im (fr other), Bd.im (.int num), Bd.im (.int den), Bd.mu T, Bd.mu T, t9, t10, t11, t12, t13, t14]) (w1_if ?_) ?_
    · walk_at "L"
      · have hd0 : DivOk den := ⟨h, (hdn.up (by decide : 29 ≤ 30)).log (by decide) (by decide)⟩
        refine ⟨rfl, num, den, rfl, hd0, hT.lt (by decide), ?_⟩; walk_at "L"
        refine ⟨rfl, num, den, rfl, hd0, hT.lt (by decide), ?_⟩; walk_at "L"
        exact ⟨_, _, _, _, _, _, _, _, _, hT.app (TL.nil.cons (t_f (N := 30) (RB.of (hn.up (by decide)) (hdn.up (by decide)) h) (by decide) (by decide))), rfl⟩
      · exact ⟨_, _, _, _, _, _, _, _, _, hT.up (by decide), rfl⟩
    rintro Γ1 ⟨t0, t2, t9, t10, t11, t12, t13, t14, T, hT, rfl⟩
    walk_at "L"
    refine ⟨rfl, 1000, rfl, by decide, by decide, fun k hk0 hk1 => ?_⟩; walk_at "L"
    refine ⟨rfl, _, rfl, by simp, by simp, fun x hx => ?_⟩
    obtain ⟨j, hj0, hj1, rfl⟩ : ∃ j : Int, 0 ≤ j ∧ j < 1000 ∧ x = .int j := by
      simp only [List.mem_cons, List.not_mem_nil, or_false] at hx
      rcases hx with rfl | rfl
      · exact ⟨0, by decide, by decide, rfl⟩
      · exact ⟨k, hk0, hk1, rfl⟩
    refine d_sub ?_
    obtain ⟨n, hn1, hn2, hn3⟩ : ∃ n : Nat, (10 ^ Int.toNat 9 - 3 - j : Int) = n ∧ n < 2 ^ 30 - 3 ∧ 2 < n := by
      have e9 : (10 ^ Int.toNat 9 : Int) = 1000000000 := by decide
      rw [e9]
      exact ⟨(1000000000 - 3 - j).toNat, by omega, by omega, by omega⟩
    rw [hn1]
    walk_at "L"
    have x1 : RB 30 (nx n) := nx_rb (by omega)
    have x2 : RB 30 (nx (n + 1)) := nx_rb (by omega)
    have y1 := nx_ne (n := n) (by omega)
    have y2 := nx_ne (n := n + 1) (by omega)
    refine use2 (N := 30) (p := nx n) (q := nx (n + 1)) (by decide) x1 x2 ?_; walk_at "L"
    refine use2 (N := 30) (p := nx (n + 1)) (q := nx n) (by decide) x2 x1 ?_; walk_at "L"
    refine use2 (N := 30) (p := nx (n + 1)) (q := nx n) (by decide) x2 x1 ?_; walk_at "L"
    refine use2 (N := 30) (p := nx n) (q := nx (n + 1)) (by decide) x1 x2 ?_; walk_at "L"
    refine ⟨by have := hT.1; simp only [List.length_append, List.length_cons, List.length_nil]; rw [lim_eq]; omega, ?_⟩; walk_at "L"
    refine ⟨by have := hT.1; simp only [List.length_append, List.length_cons, List.length_nil]; rw [lim_eq]; omega, ?_⟩; walk_at "L"
    refine use2 (N := 30) (p := nx n) (q := nx (n + 1)) (by decide) x1 x2 ?_; walk_at "L"
    refine use1 (N := 61) (by decide) (x1.sub x2) ?_; walk_at "L"
    refine use2 (N := 30) (p := nx (n + 1)) (q := nx n) (by decide) x2 x1 ?_; walk_at "L"
    refine use1 (N := 61) (by decide) (x2.sub x1) ?_; walk_at "L"
    refine ⟨by have := hT.1; simp only [List.length_append, List.length_cons, List.length_nil]; rw [lim_eq]; omega, ?_⟩; walk_at "L"
    refine ⟨rfl, nx n, nx (n + 1), 30, rfl, by decide, x1, x2, y2, ?_⟩; walk_at "L"
    refine use1 (N := 60) (by decide) (x1.div x2 y2) ?_; walk_at "L"
    refine ⟨rfl, nx (n + 1), nx n, 30, rfl, by decide, x2, x1, y1, ?_⟩; walk_at "L"
    refine use1 (N := 60) (by decide) (x2.div x1 y1) ?_; walk_at "L"
    refine ⟨by have := hT.1; simp only [List.length_append, List.length_cons, List.length_nil]; rw [lim_eq]; omega, ?_⟩; walk_at "L"
    refine ⟨by have := hT.1; simp only [List.length_append, List.length_cons, List.length_nil]; rw [lim_eq]; omega, ?_⟩; walk_at "L"
    obtain ⟨z1, z2, z3, z4, z5, z6, z7, z8⟩ := nx_facts hn3
    rw [z1, z2, z3, z4, z5, z6, z7, z8]
    rw [List.append_assoc (T ++ [PyData.bool true, .bool false, .bool false, .bool true]) [PyData.int (-1), .int 1] [PyData.int 0, .int 1]]
    refine w1_at (fun Γ => ∃ (t0 t2 t9 t10 t11 t12 t13 t14 : Bd) (T : List PyData), TL 22 T ∧ Γ = [t0, Bd.rw (.ref b), t2, Bd.im (fr one), Bd.im (fr other), Bd.im (.int num), Bd.im (.int den), Bd.mu T, Bd.mu T, t9, t10, t11, t12, t13, t14]) ⟨_, _, _, _, _, _, _, _, _, ?_, rfl⟩ ?_
    · exact ((hT.app (TL.nil.cons (t_b _) |>.cons (t_b _) |>.cons (t_b _) |>.cons (t_b _))).app (TL.nil.cons (t_i (N := 1) (show NB 1 1 by unfold NB; decide) (by decide) (by decide)) |>.cons (t_i (N := 1) (show NB 1 0 by unfold NB; decide) (by decide) (by decide)) |>.cons (t_i (N := 1) (show NB 1 1 by unfold NB; decide) (by decide) (by decide)) |>.cons (t_i (N := 1) (show NB 1 (-1) by unfold NB; decide) (by decide) (by decide))))
    rintro Γ1 ⟨t0, t2, t9, t10, t11, t12, t13, t14, T, hT, rfl⟩
    refine w1_cut (fun Γ => ∃ (t0 t2 t9 t10 t11 t12 t13 t14 : Bd) (T : List PyData), TL 24 T ∧ Γ = [t0, Bd.rw (.ref b), t2, Bd.im (fr one), Bd.im (fr other), Bd.im (.int num), Bd.im (.int den), Bd.mu T, Bd.mu T, t9, t10, t11, t12, t13, t14]) (w1_if ?_) ?_
    · walk_at "L"
      · have ho : other ≠ 0 := fun z => h (by rw [z]; rfl)
        refine ⟨rfl, one, other, 30, rfl, by decide, h1, h2, ho, ?_⟩; walk_at "L"
        refine ⟨rfl, one, other, 30, rfl, by decide, h1, h2, ho, ?_⟩; walk_at "L"
        refine use2 (N := 60) (by decide) (h1.div h2 ho) (h2.up (by decide)) ?_; walk_at "L"
        refine ⟨by have := hT.1; simp only [List.length_append, List.length_cons, List.length_nil]; rw [lim_eq]; omega, ?_⟩; walk_at "L"
        refine ⟨rfl, one, other, 30, rfl, by decide, h1, h2, ho, ?_⟩; walk_at "L"
        refine ⟨by have := hT.1; simp only [List.length_append, List.length_cons, List.length_nil]; rw [lim_eq]; omega, ?_⟩; walk_at "L"
        rw [Rat.div_mul_cancel ho]
        exact ⟨_, _, _, _, _, _, _, _, _, hT.app (TL.nil.cons (t_f h1 (by decide) (by decide)) |>.cons (t_f (h1.div h2 ho) (by decide) (by decide))), rfl⟩
      · exact ⟨_, _, _, _, _, _, _, _, _, hT.up (by decide), rfl⟩
    rintro Γ1 ⟨t0, t2, t9, t10, t11, t12, t13, t14, T, hT, rfl⟩
    walk_at "L"
    refine ⟨rfl, 5, rfl, by decide, by decide, fun cells groups fre way hfs hfm => ?_⟩; walk_at "L"
    have hm0 : 0 < cells.length := List.length_pos_iff.mpr hfs
    have hm5 : cells.length ≤ 5 := hfm
    have hmc : cells ≠ [] := List.length_pos_iff.mp hm0
    refine ⟨rfl, _, rfl, by omega, fun ps hp1 hp2 => ?_⟩; walk_at "L"
    refine ⟨rfl, _, rfl, by omega, fun qs hq1 hq2 => ?_⟩; walk_at "L"
    refine ⟨rfl, _, rfl, by omega, by omega, fun ms hm1 hm2 => ?_⟩; walk_at "L"
    refine ⟨rfl, cells, _, rfl, hmc, by omega, ?_⟩; walk_at "L"
    refine ⟨rfl, ps, qs, 4, rfl, by decide, hp2, hq2, ?_⟩; walk_at "L"
    refine ⟨rfl, ps, qs, 4, rfl, by decide, hp2, hq2, ?_⟩; walk_at "L"
    refine ⟨rfl, one, ps, 30, rfl, by decide, h1, hp2.up (by decide), ?_⟩; walk_at "L"
    refine ⟨rfl, ms, .inl rfl, ?_⟩; walk_at "L"
    refine ⟨by have := hT.1; simp only [List.length_append, List.length_cons, List.length_nil]; rw [lim_eq]; omega, ?_⟩; walk_at "L"
    · exact List.cons_ne_nil _ _
    · omega
    · omega
    · simp only [List.length_cons, List.length_nil]; decide
    rw [vec_rep]
    walk_at "L"
    refine ⟨rfl, ps, qs, 4, rfl, by decide, hp2, hq2, ?_⟩; walk_at "L"
    refine ⟨rfl, ps, qs, 4, rfl, by decide, hp2, hq2, ?_⟩; walk_at "L"
    refine ⟨by have := hT.1; simp only [List.length_append, List.length_cons, List.length_nil]; rw [lim_eq]; omega, ?_⟩; walk_at "L"
    refine ⟨rfl, one, ps, 30, rfl, by decide, h1, hp2.up (by decide), ?_⟩; walk_at "L"
    refine ⟨rfl, ms, .inl rfl, ?_⟩; walk_at "L"
    refine ⟨by have := hT.1; simp only [List.length_append, List.length_cons, List.length_nil]; rw [lim_eq]; omega, ?_⟩; walk_at "L"
    rw [List.append_assoc T [_, _, _] [_, _]]
    refine w1_at (fun Γ => ∃ (t0 t2 t9 t10 t11 t12 t13 t14 : Bd) (T : List PyData), TL 29 T ∧ Γ = [t0, Bd.rw (.ref b), t2, Bd.im (fr one), Bd.im (fr other), Bd.im (.int num), Bd.im (.int den), Bd.mu T, Bd.mu T, t9, t10, t11, t12, t13, t14]) ⟨_, _, _, _, _, _, _, _, _, ?_, rfl⟩ ?_
    · have v0 : VB 1 (List.replicate cells.length (0 : Rat)) := fun p hp => by
        rw [List.eq_of_mem_replicate hp]
        exact ⟨by show (0 : Nat) < 2 ^ 1; decide, by show (1 : Nat) < 2 ^ 1; decide⟩
      have v1 := hp2.zip (N' := 9) (f := fun p q => p + q) hq2 fun p q a b => a.add b
      have v2 := hp2.zip (N' := 9) (f := fun p q => p - q) hq2 fun p q a b => a.sub b
      have v3 : VB 60 (ps.map fun p => one * p) := hp2.map fun p a => h1.mul (a.up (by decide))
      have v4 : VB 3 (ms.map (Int.cast : Int → Rat)) := fun p hp => by
        obtain ⟨m, hm, rfl⟩ := List.mem_map.mp hp
        exact RB.cast (hm2 m hm) (by decide)
      have l5 : ps.length ≤ 5 := by omega
      have l6 : ms.length ≤ 5 := by omega
      exact hT.app (TL.nil.cons (t_v v4 (by rw [List.length_map]; exact l6) (by decide) (by decide)) |>.cons (t_v v3 (by rw [List.length_map]; exact l5) (by decide) (by decide)) |>.cons (t_v v2 (by rw [List.length_zipWith]; omega) (by decide) (by decide)) |>.cons (t_v v1 (by rw [List.length_zipWith]; omega) (by decide) (by decide)) |>.cons (t_v v0 (by rw [List.length_replicate]; exact hm5) (by decide) (by decide)))
    rintro Γ1 ⟨t0, t2, t9, t10, t11, t12, t13, t14, T, hT, rfl⟩
    refine w1_freeze 7 rfl (w1_freeze 8 rfl (w1_if ?_))
    walk_at "L"
    refine ⟨rfl, T, 4, _, rfl, hT.list, by decide, by rw [lim_eq]; decide, ?_⟩; walk_at "L"
    exact ⟨_, _, _, _, _, _, _, _, _, _, _, _, _, _, rfl⟩
  · rintro Γ1 ⟨t0, t2, t3, t4, t5, t6, t7, t8, t9, t10, t11, t12, t13, t14, rfl⟩
    walk_at "L"
    exact hq

theorem all_law {P : Program} {w : World} {K : PySem.W.Frag} {mg : Str → Option Value} {fa : Addr} (hmg : mg "law" = some (.ref fa))
    (z_len : mg "len" = none)
    (z_tuple : mg "tuple" = none)
    (z_int : mg "int" = none)
    (z_abs : mg "abs" = none)
    (z_range : mg "range" = none)
    (z_zip : mg "zip" = none)
    (z_repr : mg "repr" = none)
    (z_gcd : mg "gcd" = some (.builtin "math.gcd"))
    (d_fraction : DfX K mg "fraction" s_fraction ["num", "den"])
    (d_whole : DfX K mg "whole" s_whole ["integer"])
    (d_plus : DfX K mg "plus" s_plus ["one", "other"])
    (d_minus : DfX K mg "minus" s_minus ["one", "other"])
    (d_times : DfX K mg "times" s_times ["one", "other"])
    (d_over : DfX K mg "over" s_over ["one", "other"])
    (d_is_less : DfX K mg "is_less" s_is_less ["one", "other"])
    (d_is_at_most : DfX K mg "is_at_most" s_is_at_most ["one", "other"])
    (d_sign_of : DfX K mg "sign_of" s_sign_of ["one"])
    (d_floor_of : DfX K mg "floor_of" s_floor_of ["one"])
    (d_nought : DfX K mg "nought" s_nought ["frame"])
    (d_added : DfX K mg "added" s_added ["one", "other"])
    (d_less : DfX K mg "less" s_less ["one", "other"])
    (d_multiple : DfX K mg "multiple" s_multiple ["share", "vector"])
    (d_vector_of : DfX K mg "vector_of" s_vector_of ["numbers"])
    (d_law_bag : DfX K mg "_law_bag" s_law_bag ["script"])
    (d_law_take : DfX K mg "_law_take" s_law_take ["bag", "many"])
    (d_law_some : DfX K mg "_law_some" s_law_some ["bag", "things"])
    (d_law_mixed : DfX K mg "_law_mixed" s_law_mixed ["bag", "things"])
    (d_law_alike : DfX K mg "_law_alike" s_law_alike ["found", "due"])
    (d_law_gcd : DfX K mg "_law_gcd" s_law_gcd ["one", "other"])
    (d_law_fr : DfX K mg "_law_fr" s_law_fr ["num", "den"])
    (d_law_plus : DfX K mg "_law_plus" s_law_plus ["one", "other"])
    (d_law_minus : DfX K mg "_law_minus" s_law_minus ["one", "other"])
    (d_law_times : DfX K mg "_law_times" s_law_times ["one", "other"])
    (d_law_over : DfX K mg "_law_over" s_law_over ["one", "other"])
    (d_law_below : DfX K mg "_law_below" s_law_below ["one", "other"])
    (d_law_vector : DfX K mg "_law_vector" s_law_vector ["numbers"])
    (d_law_added : DfX K mg "_law_added" s_law_added ["one", "other"])
    (d_law_less : DfX K mg "_law_less" s_law_less ["one", "other"])
    (d_law_multiple : DfX K mg "_law_multiple" s_law_multiple ["share", "vector"])
    (d_law_frame : DfX K mg "_law_frame" s_law_frame ["bag", "most"])
    (d_law_stand : DfX K mg "_law_stand" s_law_stand ["bag", "many"])
    (d_law_reading : DfX K mg "_law_reading" s_law_reading ["bag", "many"])
    (d_law_number : DfX K mg "_law_number" s_law_number ["bag"])
    (d_law_drawn_fraction : DfX K mg "_law_drawn_fraction" s_law_drawn_fraction ["bag"])
    (d_law_floor : DfX K mg "_law_floor" s_law_floor ["one"])
    (d_law : DfX K mg "law" s_law ["script"])
    (base : Heap) : ∃ fd : FuncData, Binds K fd ["script"] [] ∧ FnOkG P w K mg base 5 fa fd ["script"] (spD K 1 spLaw) := by
  have B : ∀ k g, Blt (gz P w K mg base k g) := fun _ _ => ⟨z_len, z_tuple, z_int, z_abs, z_range, z_zip, z_repr, z_gcd⟩
  have q_fraction := p_fraction (G := gz P w K mg base 0 false) (B _ _) rfl rfl  ⟨d_fraction⟩
  have q_whole := p_whole (G := gz P w K mg base 0 false) (B _ _) rfl rfl  ⟨d_whole⟩
  have q_is_less := p_is_less (G := gz P w K mg base 0 false) (B _ _) rfl rfl  ⟨d_is_less⟩
  have q_is_at_most := p_is_at_most (G := gz P w K mg base 0 false) (B _ _) rfl rfl  ⟨d_is_at_most⟩
  have q_sign_of := p_sign_of (G := gz P w K mg base 0 false) (B _ _) rfl rfl  ⟨d_sign_of⟩
  have q_floor_of := p_floor_of (G := gz P w K mg base 0 false) (B _ _) rfl rfl  ⟨d_floor_of⟩
  have q_nought := p_nought (G := gz P w K mg base 0 false) (B _ _) rfl rfl  ⟨d_nought⟩
  have q_vector_of := p_vector_of (G := gz P w K mg base 0 false) (B _ _) rfl rfl  ⟨d_vector_of⟩
  have q_law_bag := p_law_bag (G := gz P w K mg base 0 false) (B _ _) rfl rfl  ⟨d_law_bag⟩
  have q_law_take := p_law_take (G := gz P w K mg base 0 false) (B _ _) rfl rfl  ⟨d_law_take⟩
  have q_law_alike := p_law_alike (G := gz P w K mg base 0 true) (B _ _) rfl rfl  ⟨d_law_alike⟩
  have q_law_gcd := p_law_gcd (G := gz P w K mg base 0 false) (B _ _) rfl rfl  ⟨d_law_gcd⟩
  have q_law_below := p_law_below (G := gz P w K mg base 0 false) (B _ _) rfl rfl  ⟨d_law_below⟩
  have q_law_vector := p_law_vector (G := gz P w K mg base 0 false) (B _ _) rfl rfl  ⟨d_law_vector⟩
  have q_law_floor := p_law_floor (G := gz P w K mg base 0 false) (B _ _) rfl rfl  ⟨d_law_floor⟩
  have q_plus := p_plus (G := gz P w K mg base 1 false) (B _ _) rfl rfl ⟨q_fraction.ex⟩ ⟨d_plus⟩
  have q_minus := p_minus (G := gz P w K mg base 1 false) (B _ _) rfl rfl ⟨q_fraction.ex⟩ ⟨d_minus⟩
  have q_times := p_times (G := gz P w K mg base 1 false) (B _ _) rfl rfl ⟨q_fraction.ex⟩ ⟨d_times⟩
  have q_over := p_over (G := gz P w K mg base 1 false) (B _ _) rfl rfl ⟨q_fraction.ex⟩ ⟨d_over⟩
  have q_law_some := p_law_some (G := gz P w K mg base 1 false) (B _ _) rfl rfl ⟨q_law_take.ex⟩ ⟨d_law_some⟩
  have q_law_mixed := p_law_mixed (G := gz P w K mg base 1 false) (B _ _) rfl rfl ⟨q_law_take.ex⟩ ⟨d_law_mixed⟩
  have q_law_fr := p_law_fr (G := gz P w K mg base 1 false) (B _ _) rfl rfl ⟨q_law_gcd.ex⟩ ⟨d_law_fr⟩
  have q_law_number := p_law_number (G := gz P w K mg base 1 false) (B _ _) rfl rfl ⟨q_law_take.ex⟩ ⟨d_law_number⟩
  have q_added := p_added (G := gz P w K mg base 2 false) (B _ _) rfl rfl ⟨q_plus.ex⟩ ⟨d_added⟩
  have q_less := p_less (G := gz P w K mg base 2 false) (B _ _) rfl rfl ⟨q_minus.ex⟩ ⟨d_less⟩
  have q_multiple := p_multiple (G := gz P w K mg base 2 false) (B _ _) rfl rfl ⟨q_times.ex⟩ ⟨d_multiple⟩
  have q_law_plus := p_law_plus (G := gz P w K mg base 2 false) (B _ _) rfl rfl ⟨q_law_fr.ex⟩ ⟨d_law_plus⟩
  have q_law_minus := p_law_minus (G := gz P w K mg base 2 false) (B _ _) rfl rfl ⟨q_law_fr.ex⟩ ⟨d_law_minus⟩
  have q_law_times := p_law_times (G := gz P w K mg base 2 false) (B _ _) rfl rfl ⟨q_law_fr.ex⟩ ⟨d_law_times⟩
  have q_law_over := p_law_over (G := gz P w K mg base 2 false) (B _ _) rfl rfl ⟨q_law_fr.ex⟩ ⟨d_law_over⟩
  have q_law_frame := p_law_frame (G := gz P w K mg base 2 false) (B _ _) rfl rfl ⟨q_law_take.ex⟩ ⟨q_law_some.ex⟩ ⟨q_law_mixed.ex⟩ ⟨d_law_frame⟩
  have q_law_stand := p_law_stand (G := gz P w K mg base 2 false) (B _ _) rfl rfl ⟨q_law_some.ex⟩ ⟨q_law_take.ex⟩ ⟨q_law_fr.ex⟩ ⟨d_law_stand⟩
  have q_law_reading := p_law_reading (G := gz P w K mg base 2 false) (B _ _) rfl rfl ⟨q_law_take.ex⟩ ⟨q_law_some.ex⟩ ⟨d_law_reading⟩
  have q_law_drawn_fraction := p_law_drawn_fraction (G := gz P w K mg base 2 false) (B _ _) rfl rfl ⟨q_law_number.ex⟩ ⟨q_law_fr.ex⟩ ⟨d_law_drawn_fraction⟩
  have q_law_added := p_law_added (G := gz P w K mg base 3 false) (B _ _) rfl rfl ⟨q_law_plus.ex⟩ ⟨d_law_added⟩
  have q_law_less := p_law_less (G := gz P w K mg base 3 false) (B _ _) rfl rfl ⟨q_law_minus.ex⟩ ⟨d_law_less⟩
  have q_law_multiple := p_law_multiple (G := gz P w K mg base 3 false) (B _ _) rfl rfl ⟨q_law_times.ex⟩ ⟨d_law_multiple⟩
  have q_law := p_law (G := gz P w K mg base 4 true) (B _ _) rfl rfl ⟨q_law_bag.ex⟩ ⟨q_law_drawn_fraction.ex⟩ ⟨q_law_number.ex⟩ ⟨q_plus.ex⟩ ⟨q_minus.ex⟩ ⟨q_times.ex⟩ ⟨q_whole.ex⟩ ⟨q_law_plus.ex⟩ ⟨q_law_minus.ex⟩ ⟨q_law_times.ex⟩ ⟨q_is_less.ex⟩ ⟨q_is_at_most.ex⟩ ⟨q_law_below.ex⟩ ⟨q_sign_of.ex⟩ ⟨q_floor_of.ex⟩ ⟨q_fraction.ex⟩ ⟨q_law_floor.ex⟩ ⟨q_law_fr.ex⟩ ⟨q_law_some.ex⟩ ⟨q_law_take.ex⟩ ⟨q_over.ex⟩ ⟨q_law_over.ex⟩ ⟨q_law_frame.ex⟩ ⟨q_law_stand.ex⟩ ⟨q_law_reading.ex⟩ ⟨q_nought.ex⟩ ⟨q_added.ex⟩ ⟨q_less.ex⟩ ⟨q_multiple.ex⟩ ⟨q_vector_of.ex⟩ ⟨q_law_added.ex⟩ ⟨q_law_less.ex⟩ ⟨q_law_multiple.ex⟩ ⟨q_law_vector.ex⟩ ⟨q_law_alike.ex⟩ ⟨d_law⟩
  obtain ⟨f, fd, h1, _, h3, h4⟩ := q_law.ex
  cases hmg.symm.trans h1
  exact ⟨fd, h3, h4⟩
end K03
open PySem PySem.W PyProof.Rows
set_option maxHeartbeats 0 in
theorem PySem.Challenge.cw_heldthrough_k03_fractions_and_vectors_re_holds : PySem.Challenge.rw_heldthrough_k03_fractions_and_vectors_re.Holds := by
  w_on; o_law; k_head; (case hw => w_witness2)
  k_fill
  refine DW.law_end (k := 5) (x := "script") rfl rfl ⟨rfl, by decide, by decide⟩ (fun w h Y => PySem.W.kIn_of Y) ?F
  case F =>
    intro w mg fa h KX G hmg base
    refine' K03.all_law hmg ?z_len ?z_tuple ?z_int ?z_abs ?z_range ?z_zip ?z_repr ?z_gcd
      (DW.df_mk KX G ?a_fraction ?l_fraction ?c_fraction ?k_fraction (fun _ _ _ _ _ _ us hl => match us, hl with | [_, _], _ => rfl))
      (DW.df_mk KX G ?a_whole ?l_whole ?c_whole ?k_whole (fun _ _ _ _ _ _ us hl => match us, hl with | [_], _ => rfl))
      (DW.df_mk KX G ?a_plus ?l_plus ?c_plus ?k_plus (fun _ _ _ _ _ _ us hl => match us, hl with | [_, _], _ => rfl))
      (DW.df_mk KX G ?a_minus ?l_minus ?c_minus ?k_minus (fun _ _ _ _ _ _ us hl => match us, hl with | [_, _], _ => rfl))
      (DW.df_mk KX G ?a_times ?l_times ?c_times ?k_times (fun _ _ _ _ _ _ us hl => match us, hl with | [_, _], _ => rfl))
      (DW.df_mk KX G ?a_over ?l_over ?c_over ?k_over (fun _ _ _ _ _ _ us hl => match us, hl with | [_, _], _ => rfl))
      (DW.df_mk KX G ?a_is_less ?l_is_less ?c_is_less ?k_is_less (fun _ _ _ _ _ _ us hl => match us, hl with | [_, _], _ => rfl))
      (DW.df_mk KX G ?a_is_at_most ?l_is_at_most ?c_is_at_most ?k_is_at_most (fun _ _ _ _ _ _ us hl => match us, hl with | [_, _], _ => rfl))
      (DW.df_mk KX G ?a_sign_of ?l_sign_of ?c_sign_of ?k_sign_of (fun _ _ _ _ _ _ us hl => match us, hl with | [_], _ => rfl))
      (DW.df_mk KX G ?a_floor_of ?l_floor_of ?c_floor_of ?k_floor_of (fun _ _ _ _ _ _ us hl => match us, hl with | [_], _ => rfl))
      (DW.df_mk KX G ?a_nought ?l_nought ?c_nought ?k_nought (fun _ _ _ _ _ _ us hl => match us, hl with | [_], _ => rfl))
      (DW.df_mk KX G ?a_added ?l_added ?c_added ?k_added (fun _ _ _ _ _ _ us hl => match us, hl with | [_, _], _ => rfl))
      (DW.df_mk KX G ?a_less ?l_less ?c_less ?k_less (fun _ _ _ _ _ _ us hl => match us, hl with | [_, _], _ => rfl))
      (DW.df_mk KX G ?a_multiple ?l_multiple ?c_multiple ?k_multiple (fun _ _ _ _ _ _ us hl => match us, hl with | [_, _], _ => rfl))
      (DW.df_mk KX G ?a_vector_of ?l_vector_of ?c_vector_of ?k_vector_of (fun _ _ _ _ _ _ us hl => match us, hl with | [_], _ => rfl))
      (DW.df_mk KX G ?a_law_bag ?l_law_bag ?c_law_bag ?k_law_bag (fun _ _ _ _ _ _ us hl => match us, hl with | [_], _ => rfl))
      (DW.df_mk KX G ?a_law_take ?l_law_take ?c_law_take ?k_law_take (fun _ _ _ _ _ _ us hl => match us, hl with | [_, _], _ => rfl))
      (DW.df_mk KX G ?a_law_some ?l_law_some ?c_law_some ?k_law_some (fun _ _ _ _ _ _ us hl => match us, hl with | [_, _], _ => rfl))
      (DW.df_mk KX G ?a_law_mixed ?l_law_mixed ?c_law_mixed ?k_law_mixed (fun _ _ _ _ _ _ us hl => match us, hl with | [_, _], _ => rfl))
      (DW.df_mk KX G ?a_law_alike ?l_law_alike ?c_law_alike ?k_law_alike (fun _ _ _ _ _ _ us hl => match us, hl with | [_, _], _ => rfl))
      (DW.df_mk KX G ?a_law_gcd ?l_law_gcd ?c_law_gcd ?k_law_gcd (fun _ _ _ _ _ _ us hl => match us, hl with | [_, _], _ => rfl))
      (DW.df_mk KX G ?a_law_fr ?l_law_fr ?c_law_fr ?k_law_fr (fun _ _ _ _ _ _ us hl => match us, hl with | [_, _], _ => rfl))
      (DW.df_mk KX G ?a_law_plus ?l_law_plus ?c_law_plus ?k_law_plus (fun _ _ _ _ _ _ us hl => match us, hl with | [_, _], _ => rfl))
      (DW.df_mk KX G ?a_law_minus ?l_law_minus ?c_law_minus ?k_law_minus (fun _ _ _ _ _ _ us hl => match us, hl with | [_, _], _ => rfl))
      (DW.df_mk KX G ?a_law_times ?l_law_times ?c_law_times ?k_law_times (fun _ _ _ _ _ _ us hl => match us, hl with | [_, _], _ => rfl))
      (DW.df_mk KX G ?a_law_over ?l_law_over ?c_law_over ?k_law_over (fun _ _ _ _ _ _ us hl => match us, hl with | [_, _], _ => rfl))
      (DW.df_mk KX G ?a_law_below ?l_law_below ?c_law_below ?k_law_below (fun _ _ _ _ _ _ us hl => match us, hl with | [_, _], _ => rfl))
      (DW.df_mk KX G ?a_law_vector ?l_law_vector ?c_law_vector ?k_law_vector (fun _ _ _ _ _ _ us hl => match us, hl with | [_], _ => rfl))
      (DW.df_mk KX G ?a_law_added ?l_law_added ?c_law_added ?k_law_added (fun _ _ _ _ _ _ us hl => match us, hl with | [_, _], _ => rfl))
      (DW.df_mk KX G ?a_law_less ?l_law_less ?c_law_less ?k_law_less (fun _ _ _ _ _ _ us hl => match us, hl with | [_, _], _ => rfl))
      (DW.df_mk KX G ?a_law_multiple ?l_law_multiple ?c_law_multiple ?k_law_multiple (fun _ _ _ _ _ _ us hl => match us, hl with | [_, _], _ => rfl))
      (DW.df_mk KX G ?a_law_frame ?l_law_frame ?c_law_frame ?k_law_frame (fun _ _ _ _ _ _ us hl => match us, hl with | [_, _], _ => rfl))
      (DW.df_mk KX G ?a_law_stand ?l_law_stand ?c_law_stand ?k_law_stand (fun _ _ _ _ _ _ us hl => match us, hl with | [_, _], _ => rfl))
      (DW.df_mk KX G ?a_law_reading ?l_law_reading ?c_law_reading ?k_law_reading (fun _ _ _ _ _ _ us hl => match us, hl with | [_, _], _ => rfl))
      (DW.df_mk KX G ?a_law_number ?l_law_number ?c_law_number ?k_law_number (fun _ _ _ _ _ _ us hl => match us, hl with | [_], _ => rfl))
      (DW.df_mk KX G ?a_law_drawn_fraction ?l_law_drawn_fraction ?c_law_drawn_fraction ?k_law_drawn_fraction (fun _ _ _ _ _ _ us hl => match us, hl with | [_], _ => rfl))
      (DW.df_mk KX G ?a_law_floor ?l_law_floor ?c_law_floor ?k_law_floor (fun _ _ _ _ _ _ us hl => match us, hl with | [_], _ => rfl))
      (DW.df_mk KX G ?a_law ?l_law ?c_law ?k_law (fun _ _ _ _ _ _ us hl => match us, hl with | [_], _ => rfl)) base
    (case a_fraction => k_is); (case l_fraction => k_is); (case c_fraction => k_is); (case k_fraction => k_is)
    (case a_whole => k_is); (case l_whole => k_is); (case c_whole => k_is); (case k_whole => k_is)
    (case a_plus => k_is); (case l_plus => k_is); (case c_plus => k_is); (case k_plus => k_is)
    (case a_minus => k_is); (case l_minus => k_is); (case c_minus => k_is); (case k_minus => k_is)
    (case a_times => k_is); (case l_times => k_is); (case c_times => k_is); (case k_times => k_is)
    (case a_over => k_is); (case l_over => k_is); (case c_over => k_is); (case k_over => k_is)
    (case a_is_less => k_is); (case l_is_less => k_is); (case c_is_less => k_is); (case k_is_less => k_is)
    (case a_is_at_most => k_is); (case l_is_at_most => k_is); (case c_is_at_most => k_is); (case k_is_at_most => k_is)
    (case a_sign_of => k_is); (case l_sign_of => k_is); (case c_sign_of => k_is); (case k_sign_of => k_is)
    (case a_floor_of => k_is); (case l_floor_of => k_is); (case c_floor_of => k_is); (case k_floor_of => k_is)
    (case a_nought => k_is); (case l_nought => k_is); (case c_nought => k_is); (case k_nought => k_is)
    (case a_added => k_is); (case l_added => k_is); (case c_added => k_is); (case k_added => k_is)
    (case a_less => k_is); (case l_less => k_is); (case c_less => k_is); (case k_less => k_is)
    (case a_multiple => k_is); (case l_multiple => k_is); (case c_multiple => k_is); (case k_multiple => k_is)
    (case a_vector_of => k_is); (case l_vector_of => k_is); (case c_vector_of => k_is); (case k_vector_of => k_is)
    (case a_law_bag => k_is); (case l_law_bag => k_is); (case c_law_bag => k_is); (case k_law_bag => k_is)
    (case a_law_take => k_is); (case l_law_take => k_is); (case c_law_take => k_is); (case k_law_take => k_is)
    (case a_law_some => k_is); (case l_law_some => k_is); (case c_law_some => k_is); (case k_law_some => k_is)
    (case a_law_mixed => k_is); (case l_law_mixed => k_is); (case c_law_mixed => k_is); (case k_law_mixed => k_is)
    (case a_law_alike => k_is); (case l_law_alike => k_is); (case c_law_alike => k_is); (case k_law_alike => k_is)
    (case a_law_gcd => k_is); (case l_law_gcd => k_is); (case c_law_gcd => k_is); (case k_law_gcd => k_is)
    (case a_law_fr => k_is); (case l_law_fr => k_is); (case c_law_fr => k_is); (case k_law_fr => k_is)
    (case a_law_plus => k_is); (case l_law_plus => k_is); (case c_law_plus => k_is); (case k_law_plus => k_is)
    (case a_law_minus => k_is); (case l_law_minus => k_is); (case c_law_minus => k_is); (case k_law_minus => k_is)
    (case a_law_times => k_is); (case l_law_times => k_is); (case c_law_times => k_is); (case k_law_times => k_is)
    (case a_law_over => k_is); (case l_law_over => k_is); (case c_law_over => k_is); (case k_law_over => k_is)
    (case a_law_below => k_is); (case l_law_below => k_is); (case c_law_below => k_is); (case k_law_below => k_is)
    (case a_law_vector => k_is); (case l_law_vector => k_is); (case c_law_vector => k_is); (case k_law_vector => k_is)
    (case a_law_added => k_is); (case l_law_added => k_is); (case c_law_added => k_is); (case k_law_added => k_is)
    (case a_law_less => k_is); (case l_law_less => k_is); (case c_law_less => k_is); (case k_law_less => k_is)
    (case a_law_multiple => k_is); (case l_law_multiple => k_is); (case c_law_multiple => k_is); (case k_law_multiple => k_is)
    (case a_law_frame => k_is); (case l_law_frame => k_is); (case c_law_frame => k_is); (case k_law_frame => k_is)
    (case a_law_stand => k_is); (case l_law_stand => k_is); (case c_law_stand => k_is); (case k_law_stand => k_is)
    (case a_law_reading => k_is); (case l_law_reading => k_is); (case c_law_reading => k_is); (case k_law_reading => k_is)
    (case a_law_number => k_is); (case l_law_number => k_is); (case c_law_number => k_is); (case k_law_number => k_is)
    (case a_law_drawn_fraction => k_is); (case l_law_drawn_fraction => k_is); (case c_law_drawn_fraction => k_is); (case k_law_drawn_fraction => k_is)
    (case a_law_floor => k_is); (case l_law_floor => k_is); (case c_law_floor => k_is); (case k_law_floor => k_is)
    (case a_law => k_is); (case l_law => k_is); (case c_law => k_is); (case k_law => k_is)
    case z_len => refine PySem.W.mg_none_of KX G ?zz_len; k_is
    case z_tuple => refine PySem.W.mg_none_of KX G ?zz_tuple; k_is
    case z_int => refine PySem.W.mg_none_of KX G ?zz_int; k_is
    case z_abs => refine PySem.W.mg_none_of KX G ?zz_abs; k_is
    case z_range => refine PySem.W.mg_none_of KX G ?zz_range; k_is
    case z_zip => refine PySem.W.mg_none_of KX G ?zz_zip; k_is
    case z_repr => refine PySem.W.mg_none_of KX G ?zz_repr; k_is
    case z_gcd => refine PySem.W.mg_of KX G ?zz_gcd; k_is
